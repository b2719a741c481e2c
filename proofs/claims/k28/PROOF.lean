import PyProof.Rows.All
import Wide.All
import OpenK.AllK
import Wide.FinOn
import KE.KExcIs
import HandS.ForMost
import HandS.ForExc
import HandS.ExcInit
import HandS.ExcField
import HandS.ExcIs
import HandS.ExcValue
import HandS.IsInst
import HandS.ClsMeth
import HandS.Defaults
import HandS.Steps
import HandS.Style
import HandS.Wide
import PyProof.ListStr
import HandS.Head0
import HandS.Head1
import HandS.Head2
import HandS.HeadEnd
import HandS.HeadHook4
import PyProof.CollectStr
import PyProof.StrWalks
import PyProof.Rows.SetFrom
import PyProof.Rows.SortStr
import HandS.SetKeys
import HandS.More
import HandS.Set
import HandS.SetTxt0
import HandS.Strs
import PyProof.Rows.StrRev
import HandS.ReplaceList
import HandS.Walk
import HandS.Codes
import HandS.OwnEq
import HandS.Dict
import KE.KSuper
import HandS.Star
import HandS.FStr
import HandS.MakeKwOnly
import HandS.Deep
import HandS.HeadHook3
import HandS.HeadNt
import HandS.Conv
import KE.KDictKeyed
import KE.KDictDisplayH
import HandS.TupLen
import KE.KCallOwn
import HandS.RaiseMore
import PyProof.StrLawsRepr
import HandS.TryOnly
import HandS.Replace
import PyProof.StrLawsIn
import HandS.StrMore
import PyProof.Rows.Range3
import KE.KxField
import PyProof.FString3
import PySem.Challenge.RW_cliplore_k28_machine_tables_refused
set_option Elab.async false
set_option linter.all false
set_option maxRecDepth 100000
set_option maxHeartbeats 4000000
/-! Own layer, part 1: the program's errors as values. -/
namespace Cl
open PySem PySem.Spec PyProof.Rows L2
/-- what the written part says of an error class C of the program -/
structure XCls (K : PySem.W.Frag) (C : Addr) : Prop where
  o : OexC K C
  f : XfC K C
  cl : (PySem.W.clsIn K C).isSome = true
  kl : PySem.W.findIn K (.ref C) "__class__" = some (some (.builtin "object.__class__"))
  sg : PySem.W.specialIn K (.builtin "object.__class__") "__get__" = some (some (.builtin "getset_descriptor.__get__"))
  tk : PySem.W.takesIn K (.builtin "object.__class__") = some true
  mo : PySem.W.mroIn K C (.type "object") = some true
section
variable {X : Cx} {e : Expr} {es : List Expr} {te : TE} {ta : TA} {f x : Str} {p p1 p2 pos : Pos}
/-- B.__init__(self, ..), B an error class of the program without an __init__ of its own -/
theorem pe_binit {B : Addr} {pl : Sem Bool} (hg : Gl X x) (hm : X.mg x = some (.ref B)) (hs : PySem.W.specialIn X.K (.ref B) "__getattribute__" = some (some (.builtin "type.__getattribute__"))) (ht : PySem.W.typeIn X.K (.ref B) = some (.type "type")) (hr : PySem.W.readsIn X.K B (.type "type") = true)
    (hv : PySem.W.findCls X.K (.ref B) (.type "type") "__init__" = some (.val (.builtin "ValueError.__init__"))) (ha : PA X (e :: es) ta)
    (hc : eval (.Call (.Attribute (.Name x p1) "__init__" p2) (e :: es) [] pos) X.env = (do
      let ov ← eval (.Name x p1) X.env
      standAt p2.atName
      let (f, first) ← holding [ov] (getMethod ov "__init__" pl)
      callWith pos f first (backTo pos (starEach (e :: es) X.env)) (backToKw pos (keywordEach [] X.env))) := by rfl)
    (hd : (x == ("__debug__" : Str)) = false := by decide)
    (he : starEach (e :: es) X.env = (false, eval e X.env) :: starEach es X.env := by rfl) (hq : (backTo pos (starEach es X.env)).any (·.1) = false := by rfl) :
    PE X (.Call (.Attribute (.Name x p1) "__init__" p2) (e :: es) [] pos) (tVeI X.K ta) := by
  constructor
  intro pins s σ H Q I h
  refine PySem.W.methodCall_KW (ld_glob I hg hm ?_ hd) hc
  obtain ⟨m, fr⟩ := I.fr
  refine PySem.W.method_of_cls fr I.ok.mod.kin hs (PySem.W.cls_val fr I.ok.mod.kin ht hr hv (by decide +kernel) ?_)
  refine PyProof.Rows.callWith_method1 (thn (ha.run pos pins _ σ H _ (I.tok _) h) ?_) he hq
  rintro us s1 ⟨vs, H1, I1, r1, a, C, ws, ev, hl, T, ea, q⟩
  subst ev
  cases r1 with
  | @cons _ u0 _ ur ra rr =>
    obtain rfl : u0 = Value.ref a := ra
    refine oinit_ok T I1 ea ?_ (fun s' J => ⟨.non, H1, J, rfl, q⟩)
    rw [← Paired.length rr, sizeLine_eq]
    omega
/-- an error at a: with a dict at d of the fields fs, or bare -/
def XAt (H : Hp) (a C : Addr) : Prop := H a = some (ExO (.ref C) a) ∨ ∃ d fs, H a = some (exo a C (some d)) ∧ H d = some (exd d fs)
/-- isinstance(e, c) -/
def rIsX (K : PySem.W.Frag) : List V → Hp → VK → Prop := fun xs H Q => ∃ (a C : Addr) (c : V) (u : Value) (b : Bool), xs = [.ref a, c] ∧ ClsV c u ∧ XCls K C ∧ XAt H a C ∧ PySem.W.kitOne K (.ref C) u = some b ∧ Q (.bl b) H
theorem call_isX : CallR X (.builtin "isinstance") (rIsX X.K) := by
  intro pins s σ H xs us Q I r h
  obtain ⟨a, C, c, u, b, rfl, k, T, hX, hk, q⟩ := h
  obtain ⟨u1, u2, rfl, r1, r2⟩ := vals2 r
  obtain rfl := k.eq r2
  obtain rfl : u1 = Value.ref a := r1
  have J : ∃ ox od, PySem.W.InstAt s.heap a ox C od := by
    rcases hX with h | ⟨d, fs, h1, h2⟩
    · obtain ⟨⟨oe, vs, ho, hz, hd, _⟩, _⟩ := I.hok a _ h
      refine ⟨oe, none, ho, hz.1, ?_, ?_⟩
      · unfold PySem.W.notCls
        rw [hd]
      · rw [hz.2]
        trivial
    · obtain ⟨t1, ho⟩ := exo_at I.hok h1
      obtain ⟨mA, hns, _⟩ := exd_at I.hok h2
      obtain ⟨od, hod, _⟩ := lookIn_ns hns
      exact ⟨_, some od, ho, rfl, rfl, hod⟩
  obtain ⟨ox, od, J⟩ := J
  exact PySem.W.kia_one (PySem.W.kitx_exc T.cl T.f.ga T.f.gg T.f.exC T.kl T.sg T.tk T.mo) I.kIn J hk (fun z => nomatch z) fun tk => ⟨.bl b, H, I.tok tk, rfl, q⟩
/-- e.f of an error with its dict -/
def tXfv (K : PySem.W.Frag) (f : Str) (te : TE) : TE := fun σ H Q => te σ H fun x H1 => ∃ (a C d : Addr) (fs : List (Str × V)) (v : V), x = .ref a ∧ XfC K C ∧ PySem.W.findIn K (.ref C) f = some none ∧ H1 a = some (exo a C (some d)) ∧ H1 d = some (exd d fs) ∧ fs.lookup f = some v ∧ Q v H1
end
end Cl
/-! Own layer, part 2: operators by the kind of the values. -/
namespace Cl
open PySem PySem.Spec PyProof.Rows L2
/-- a text by its codes -/
abbrev S (l : List Nat) : Str := ⟨⟨l⟩⟩
abbrev sv (l : List Nat) : V := .str ⟨⟨l⟩⟩
theorem S_app (a b : List Nat) : S a ++ S b = S (a ++ b) := by
  show (⟨(⟨a⟩ : Array Nat) ++ ⟨b⟩⟩ : Str) = _
  simp
theorem S_len (a : List Nat) : (S a).length = a.length := rfl
def rep (a : List Nat) (k : Nat) : List Nat := (List.replicate k a).flatten
/-- z[lo:hi] -/
def cut {α : Type} (z : List α) (lo hi : Option Int) : List α := (z.drop (HT.sIx z.length 0 lo)).take (HT.sIx z.length z.length hi - HT.sIx z.length 0 lo)
section
variable {X : Cx} {p pos : Pos}
theorem pe_sv {x : Str} {l : List Nat} {j : Nat} (h : x = S l) : PE X (.Constant (.str x) j pos) (tC (sv l)) := by
  subst h
  exact pe_str
/-! ### + - * // % ** -/
def zAdd : R2 := fun x y H Q => match x, y with
  | .int i, .int j => Q (.int (i + j)) H
  | .str ⟨⟨a⟩⟩, .str ⟨⟨b⟩⟩ => a.length + b.length ≤ sizeLine ∧ Q (sv (a ++ b)) H
  | .ref l, .ref b => ∃ xs zs, H l = some (.lst xs) ∧ H b = some (.lst zs) ∧ xs.length + zs.length ≤ sizeLine ∧ ∀ p, H p = none → Q (.ref p) (upd H p (.lst (xs ++ zs)))
  | _, _ => False
theorem oz_add : OpR X (binaryOp .Add) zAdd := by
  intro pins s σ H x y v u Q I rx ry h
  cases x with
  | int i =>
    cases y with
    | int j => exact op_add pins s σ H _ _ v u Q I rx ry ⟨i, j, rfl, rfl, h⟩
    | _ => exact (show False from h).elim
  | str a =>
    cases y with
    | str b =>
      obtain ⟨⟨a⟩⟩ := a
      obtain ⟨⟨b⟩⟩ := b
      obtain ⟨hz, q⟩ : a.length + b.length ≤ sizeLine ∧ Q (sv (a ++ b)) H := h
      exact op_add_str pins s σ H _ _ v u Q I rx ry ⟨_, _, rfl, rfl, hz, by rw [S_app]; exact q⟩
    | _ => exact (show False from h).elim
  | ref l =>
    cases y with
    | ref b =>
      obtain ⟨xs, zs, h1, h2, h3, q⟩ := h
      exact op_cat pins s σ H _ _ v u Q I rx ry ⟨l, b, xs, zs, rfl, rfl, h1, h2, h3, q⟩
    | _ => exact (show False from h).elim
  | _ => exact (show False from h).elim
def zSub : R2 := fun x y H Q => match x, y with
  | .int i, .int j => Q (.int (i - j)) H
  | _, _ => False
theorem oz_sub : OpR X (binaryOp .Sub) zSub := by
  intro pins s σ H x y v u Q I rx ry h
  cases x with
  | int i =>
    cases y with
    | int j => exact op_sub pins s σ H _ _ v u Q I rx ry ⟨i, j, rfl, rfl, h⟩
    | _ => exact (show False from h).elim
  | _ => exact (show False from h).elim
theorem mul_txt (a : List Nat) (k : Int) : Txt.mul (S a) k = S (rep a k.toNat) := by
  unfold Txt.mul
  by_cases h1 : k < 1
  · rw [if_pos h1]
    have : k.toNat = 0 := by omega
    rw [this]
    rfl
  · rw [if_neg h1]
    split
    · rename_i h
      rw [Bool.or_eq_true] at h
      rcases h with h | h
      · have : k = 1 := by simpa using h
        subst this
        show S a = S (List.replicate 1 a).flatten
        simp
      · have : a = [] := by
          have : a.length = 0 := by simpa [S_len] using h
          exact List.length_eq_zero_iff.mp this
        subst this
        show S [] = S (List.replicate k.toNat []).flatten
        simp
    · show (⟨(List.replicate k.toNat (⟨a⟩ : Array Nat)).foldl (· ++ ·) #[]⟩ : Str) = S (rep a k.toNat)
      have : ∀ (n : Nat) (b : List Nat), (List.replicate n (⟨a⟩ : Array Nat)).foldl (· ++ ·) (⟨b⟩ : Array Nat) = ⟨b ++ (List.replicate n a).flatten⟩ := by
        intro n
        induction n with
        | zero => intro b; simp
        | succ n ih =>
          intro b
          rw [List.replicate_succ, List.foldl_cons]
          have e : (⟨b⟩ : Array Nat) ++ ⟨a⟩ = ⟨b ++ a⟩ := by simp
          rw [e, ih, List.replicate_succ, List.flatten_cons, List.append_assoc]
      have e := this k.toNat []
      rw [show (#[] : Array Nat) = ⟨[]⟩ from rfl, e]
      rfl
def zMul : R2 := fun x y H Q => match x, y with
  | .int i, .int j => CMul i j ∧ Q (.int (i * j)) H
  | .str ⟨⟨a⟩⟩, .int k => 0 ≤ k ∧ k ≤ 100000 ∧ a.length ≤ 100 ∧ Q (sv (rep a k.toNat)) H
  | .ref l, .int k => ∃ xs, H l = some (.lst xs) ∧ -(2 ^ 63) ≤ k ∧ k < 2 ^ 63 ∧ xs.length * k.toNat ≤ sizeLine ∧ ∀ p, H p = none → Q (.ref p) (upd H p (.lst (List.replicate k.toNat xs).flatten))
  | _, _ => False
theorem oz_mul : OpR X (binaryOp .Mult) zMul := by
  intro pins s σ H x y v u Q I rx ry h
  cases x with
  | int i =>
    cases y with
    | int j =>
      obtain ⟨hc, q⟩ := h
      exact op_mul pins s σ H _ _ v u Q I rx ry ⟨i, j, rfl, rfl, hc, q⟩
    | _ => exact (show False from h).elim
  | str a =>
    cases y with
    | int k =>
      obtain ⟨⟨a⟩⟩ := a
      obtain ⟨h0, h1, h2, q⟩ : 0 ≤ k ∧ k ≤ 100000 ∧ a.length ≤ 100 ∧ Q (sv (rep a k.toNat)) H := h
      obtain ⟨t, rfl⟩ := rx
      obtain ⟨t', rfl⟩ := ry
      have ok : MulOk (S a) k := by
        refine ⟨?_, fun h _ => ?_, fun h _ => ?_⟩
        · simp only [Bool.or_eq_false_iff, decide_eq_false_iff_not]
          omega
        · rw [S_len]
          have : (2 ^ 63 - 1 : Int) / 100000 ≤ (2 ^ 63 - 1) / k := by
            rw [Int.le_ediv_iff_mul_le (by omega)]
            have : (2 ^ 63 - 1 : Int) / 100000 * k ≤ (2 ^ 63 - 1 : Int) / 100000 * 100000 := Int.mul_le_mul_of_nonneg_left h1 (by decide)
            omega
          omega
        · rw [S_len]
          have e : a.length * k.toNat ≤ 100 * 100000 := Nat.mul_le_mul h2 (by omega)
          unfold PySem.Builtin.Str.tooLong
          have := sizeLine_eq
          simp only [decide_eq_false_iff_not]
          omega
      refine SB.mul ok fun t' tk => ?_
      rw [mul_txt]
      exact ⟨sv (rep a k.toNat), H, I.tok _, ⟨_, rfl⟩, q⟩
    | _ => exact (show False from h).elim
  | ref l =>
    cases y with
    | int k =>
      obtain ⟨xs, h1, h2, h3, h4, q⟩ := h
      exact op_rep pins s σ H _ _ v u Q I rx ry ⟨l, k, xs, rfl, rfl, h1, h2, h3, h4, q⟩
    | _ => exact (show False from h).elim
  | _ => exact (show False from h).elim
def zDiv : R2 := fun x y H Q => match x, y with
  | .int i, .int j => CDivW i j ∧ Q (.int (i / j)) H
  | _, _ => False
theorem oz_div : OpR X (binaryOp .FloorDiv) zDiv := by
  intro pins s σ H x y v u Q I rx ry h
  cases x with
  | int i =>
    cases y with
    | int j => exact op_fdivW pins s σ H _ _ v u Q I rx ry ⟨i, j, rfl, rfl, h.1, h.2⟩
    | _ => exact (show False from h).elim
  | _ => exact (show False from h).elim
def zMod : R2 := fun x y H Q => match x, y with
  | .int i, .int j => 0 < j ∧ Q (.int (i % j)) H
  | _, _ => False
theorem oz_mod : OpR X (binaryOp .Mod) zMod := by
  intro pins s σ H x y v u Q I rx ry h
  cases x with
  | int i =>
    cases y with
    | int j => exact op_mod pins s σ H _ _ v u Q I rx ry ⟨i, j, rfl, rfl, h.1, h.2⟩
    | _ => exact (show False from h).elim
  | _ => exact (show False from h).elim
def zPow : R2 := fun x y H Q => match x, y with
  | .int i, .int j => CPow i j ∧ Q (.int (i ^ j.toNat)) H
  | _, _ => False
theorem oz_pow : OpR X (binaryOp .Pow) zPow := by
  intro pins s σ H x y v u Q I rx ry h
  cases x with
  | int i =>
    cases y with
    | int j => exact op_pow pins s σ H _ _ v u Q I rx ry ⟨i, j, rfl, rfl, h.1, h.2⟩
    | _ => exact (show False from h).elim
  | _ => exact (show False from h).elim
/-! ### < <= > >= -/
def zLt : R2 := fun x y H Q => match x, y with
  | .int i, .int j => Q (.bl (decide (i < j))) H
  | _, _ => False
def zLe : R2 := fun x y H Q => match x, y with
  | .int i, .int j => Q (.bl (decide (i ≤ j))) H
  | _, _ => False
def zGt : R2 := fun x y H Q => match x, y with
  | .int i, .int j => Q (.bl (decide (j < i))) H
  | _, _ => False
def zGe : R2 := fun x y H Q => match x, y with
  | .int i, .int j => Q (.bl (decide (j ≤ i))) H
  | _, _ => False
theorem oz_lt : OpR X (compareOp .Lt) zLt := by
  intro pins s σ H x y v u Q I rx ry h
  cases x with
  | int i =>
    cases y with
    | int j => exact op_lt pins s σ H _ _ v u Q I rx ry ⟨i, j, rfl, rfl, h⟩
    | _ => exact (show False from h).elim
  | _ => exact (show False from h).elim
theorem oz_le : OpR X (compareOp .LtE) zLe := by
  intro pins s σ H x y v u Q I rx ry h
  cases x with
  | int i =>
    cases y with
    | int j => exact op_le pins s σ H _ _ v u Q I rx ry ⟨i, j, rfl, rfl, h⟩
    | _ => exact (show False from h).elim
  | _ => exact (show False from h).elim
theorem oz_gt : OpR X (compareOp .Gt) zGt := by
  intro pins s σ H x y v u Q I rx ry h
  cases x with
  | int i =>
    cases y with
    | int j => exact op_gt pins s σ H _ _ v u Q I rx ry ⟨i, j, rfl, rfl, h⟩
    | _ => exact (show False from h).elim
  | _ => exact (show False from h).elim
theorem oz_ge : OpR X (compareOp .GtE) zGe := by
  intro pins s σ H x y v u Q I rx ry h
  cases x with
  | int i =>
    cases y with
    | int j => exact op_ge pins s σ H _ _ v u Q I rx ry ⟨i, j, rfl, rfl, h⟩
    | _ => exact (show False from h).elim
  | _ => exact (show False from h).elim
/-! ### == != -/
/-- the answer of x == y for plain values; none: not by this rule -/
def eqB : V → V → Option Bool
  | .non, .non => some true
  | .non, .int _ | .int _, .non | .non, .bl _ | .bl _, .non | .non, .str _ | .str _, .non | .int _, .str _ | .str _, .int _ | .bl _, .str _ | .str _, .bl _ => some false
  | .int i, .int j => some (decide (i = j))
  | .bl i, .bl j => some (decide (i = j))
  | .str ⟨⟨a⟩⟩, .str ⟨⟨b⟩⟩ => some (decide (a = b))
  | _, _ => none
theorem eqB_scal {x y : V} {b : Bool} (h : eqB x y = some b) : scal x y = true ∧ decide (x = y) = b := by
  cases x <;> cases y <;> first
    | (refine ⟨rfl, ?_⟩; have := Option.some.inj h; subst this; simp; done)
    | (refine ⟨rfl, ?_⟩; have := Option.some.inj h; subst this; rw [Bool.eq_iff_iff]; simp; done)
    | (rename_i a b; obtain ⟨⟨a⟩⟩ := a; obtain ⟨⟨b⟩⟩ := b; refine ⟨rfl, ?_⟩; have := Option.some.inj h; subst this; rw [Bool.eq_iff_iff]; simp; done)
    | (cases h; done)
def zEq (K : PySem.W.Frag) : R2 := fun x y H Q => match eqB x y with
  | some b => Q (.bl b) H
  | none => ∃ d e, Dp K H x d ∧ Dp K H y e ∧ SeqAt.shaped d = true ∧ SeqAt.shaped e = true ∧ Q (.bl (PyData.eqv d e)) H
def zNe (K : PySem.W.Frag) : R2 := fun x y H Q => match eqB x y with
  | some b => Q (.bl (!b)) H
  | none => ∃ d e, Dp K H x d ∧ Dp K H y e ∧ SeqAt.shaped d = true ∧ SeqAt.shaped e = true ∧ Q (.bl (!PyData.eqv d e)) H
theorem oz_eq (hu : X.A.units + 64 < cLine) : OpR X (compareOp .Eq) (zEq X.K) := by
  intro pins s σ H x y v u Q I rx ry h
  unfold zEq at h
  split at h
  · rename_i b e
    obtain ⟨h1, h2⟩ := eqB_scal e
    exact op_eq pins s σ H _ _ v u Q I rx ry ⟨h1, by rw [h2]; exact h⟩
  · exact op_eqD hu pins s σ H _ _ v u Q I rx ry h
theorem oz_ne (hu : X.A.units + 64 < cLine) : OpR X (compareOp .NotEq) (zNe X.K) := by
  intro pins s σ H x y v u Q I rx ry h
  unfold zNe at h
  split at h
  · rename_i b e
    obtain ⟨h1, h2⟩ := eqB_scal e
    exact op_ne pins s σ H _ _ v u Q I rx ry ⟨h1, by rw [h2]; exact h⟩
  · exact op_neD hu pins s σ H _ _ v u Q I rx ry h
theorem hu64 {A : Around} {k : Nat} (hr : Room k A) : A.units + 64 < cLine := hr.units
/-! ### is, is not -/
def zIs : R2 := fun x y H Q => match x, y with
  | .bl a, .bl b => Q (.bl (decide (a = b))) H
  | x, .non => Q (.bl (decide (x = .non))) H
  | _, _ => False
def zIsNot : R2 := fun x y H Q => match x, y with
  | .bl a, .bl b => Q (.bl (!decide (a = b))) H
  | x, .non => Q (.bl (!decide (x = .non))) H
  | _, _ => False
theorem oz_is : OpR X (compareOp .Is) zIs := by
  intro pins s σ H x y v u Q I rx ry h
  cases y with
  | non =>
    cases x <;> exact op_isN pins s σ H _ _ v u Q I rx ry ⟨rfl, h⟩
  | bl b =>
    cases x with
    | bl a => exact op_isBl pins s σ H _ _ v u Q I rx ry ⟨a, b, rfl, rfl, h⟩
    | _ => exact (show False from h).elim
  | _ => cases x <;> exact (show False from h).elim
theorem oz_isnot : OpR X (compareOp .IsNot) zIsNot := by
  intro pins s σ H x y v u Q I rx ry h
  cases y with
  | non =>
    cases x <;> exact op_notN pins s σ H _ _ v u Q I rx ry ⟨rfl, h⟩
  | bl b =>
    cases x with
    | bl a => exact op_notBl pins s σ H _ _ v u Q I rx ry ⟨a, b, rfl, rfl, h⟩
    | _ => exact (show False from h).elim
  | _ => cases x <;> exact (show False from h).elim
/-! ### a[i], a[lo:hi] -/
def zIx (K : PySem.W.Frag) : R2 := fun x y H Q => match x, y with
  | .ref p, .int i => ∃ xs v, (SqL K H p xs ∨ SqT K H p xs) ∧ atI xs i = some v ∧ Q v H
  | .str ⟨⟨z⟩⟩, .int i => ∃ c, z.length ≤ sizeLine ∧ atI z i = some c ∧ Q (sv [c]) H
  | _, _ => False
theorem iz_ix : IxR X (zIx X.K) := by
  intro value slice pins s σ H x y v u Q I rx ry h hs
  cases x with
  | ref p =>
    cases y with
    | int i =>
      obtain ⟨xs, z, h1, h2, q⟩ := h
      rcases h1 with h1 | h1
      · exact ix_list value slice pins s σ H _ _ v u Q I rx ry ⟨p, xs, i, z, rfl, rfl, h1, h2, q⟩ hs
      · exact ix_tup value slice pins s σ H _ _ v u Q I rx ry ⟨p, xs, i, z, rfl, rfl, h1, h2, q⟩ hs
    | _ => exact (show False from h).elim
  | str z =>
    cases y with
    | int i =>
      obtain ⟨⟨z⟩⟩ := z
      obtain ⟨c, h1, h2, q⟩ : ∃ c, z.length ≤ sizeLine ∧ atI z i = some c ∧ Q (sv [c]) H := h
      exact ix_str value slice pins s σ H _ _ v u Q I rx ry ⟨S z, i, c, rfl, rfl, h1, h2, q⟩ hs
    | _ => exact (show False from h).elim
  | _ => exact (show False from h).elim
def zSl (K : PySem.W.Frag) : V → Option Int → Option Int → Hp → VK → Prop := fun x lo hi H Q => match x with
  | .str ⟨⟨z⟩⟩ => z.length ≤ sizeLine ∧ Q (sv (cut z lo hi)) H
  | .ref a => ∃ xs, SqL K H a xs ∧ ∀ p, H p = none → Q (.ref p) (upd H p (.lst (cut xs lo hi)))
  | _ => False
theorem sz_sl : SlR X (zSl X.K) := by
  intro pins s σ H x v vl vu lo hi sl Q I rx hs pl pu h
  cases x with
  | str z =>
    obtain ⟨⟨z⟩⟩ := z
    obtain ⟨hz, q⟩ : z.length ≤ sizeLine ∧ Q (sv (cut z lo hi)) H := h
    exact sl_str pins s σ H _ v vl vu lo hi sl Q I rx hs pl pu ⟨S z, rfl, hz, q⟩
  | ref a =>
    obtain ⟨xs, h1, q⟩ := h
    exact sl_list pins s σ H _ v vl vu lo hi sl Q I rx hs pl pu ⟨a, xs, rfl, h1, q⟩
  | _ => exact (show False from h).elim
/-! ### calls -/
def zLen (K : PySem.W.Frag) : List V → Hp → VK → Prop := fun xs H Q => ∃ x n, xs = [x] ∧ LenV K x H n ∧ Q (.int n) H
theorem cz_len : CallR X (.builtin "len") (zLen X.K) := call_len
def zInt : List V → Hp → VK → Prop := fun xs H Q => match xs with
  | [.int i] => Q (.int i) H
  | _ => False
def zIsi (K : PySem.W.Frag) : List V → Hp → VK → Prop := fun xs H Q => rIsX K xs H Q ∨ rIsi K xs H Q
theorem cz_isi : CallR X (.builtin "isinstance") (zIsi X.K) := CallR.or call_isX call_isi
end
end Cl
/-! Own layer, part 3: facts of the written part, and steps. -/
namespace Cl
open PySem PySem.Spec PyProof.Rows L2 He
def fdOf (K : PySem.W.Frag) (p : Str × Option Str) : FuncData := match K.lookup (fAd K p) with
  | some ⟨_, _, .func fd, _⟩ => fd
  | _ => default
theorem fn_at {K : PySem.W.Frag} {x q : Str} {a : Arguments} {b : List Stmt} {sc : Scope} {dvs : List V} {kws : List (Str × V)} {p : Str × Option Str} (h : ∃ fd, FunD K x q a b sc dvs kws (fAd K p) fd) : FunD K x q a b sc dvs kws (fAd K p) (fdOf K p) := by
  obtain ⟨fd, F⟩ := h
  have e : fdOf K p = fd := by
    obtain ⟨oc, od, dV, kV, doc, pm, an, cdv, ct, osl, rfl, lk, _⟩ := F.ex
    unfold fdOf
    rw [lk]
  rw [e]
  exact F
/-! ### an error class, by a look -/
def oexB (K : PySem.W.Frag) (C : Addr) : Bool := match K.lookup C with
  | some ⟨.type "type", _, .cls cd, sl⟩ => (match cd.mro, sl.toList with
    | .ref D :: bm, [_, _, _, _, some (.builtin n), _] => decide (D = C) && (decide (n = "ValueError.__new__") && (!cd.hasDel && (cd.hasDict && PySem.HandSPX.refsVE bm)))
    | _, _ => false)
  | _ => false
theorem oexB_ok {K : PySem.W.Frag} {C : Addr} (h : oexB K C = true) : ∃ nm q N bs bm sn sub ab col dd k0 k1 k2 k3 k5, K.lookup C = some (excClassObj nm q C N bs bm true sn sub ab col dd k0 k1 k2 k3 k5 "ValueError.__new__") ∧ PySem.HandSPX.refsVE bm = true := by
  unfold oexB at h
  split at h
  · rename_i dd cd sl ho
    split at h
    · rename_i D bm k0 k1 k2 k3 n k5 hm hs
      obtain ⟨h1, h⟩ := ba h
      obtain ⟨h2, h⟩ := ba h
      obtain ⟨h3, h⟩ := ba h
      obtain ⟨h4, h5⟩ := ba h
      obtain rfl := of_decide_eq_true h1
      obtain rfl := of_decide_eq_true h2
      obtain ⟨nm, bs, mro, ns, qn, hd, sn, sub, ab, col, del⟩ := cd
      obtain ⟨l⟩ := sl
      dsimp only at hm hs h3 h4
      subst hm hs h4
      have hdel : del = false := by simpa using h3
      subst hdel
      exact ⟨nm, qn, ns, bs, bm, sn, sub, ab, col, dd, k0, k1, k2, k3, k5, ho, h5⟩
    · cases h
  · cases h
def xclsB (K : PySem.W.Frag) (C : Addr) : Bool := oexB K C && (decide (PySem.W.findIn K (.ref C) "__setattr__" = some (some (.builtin "object.__setattr__"))) && (decide (PySem.W.typeIn K (.ref C) = some (.type "type")) && (PySem.W.keepIn K (.ref C) &&
  (xfB K C && ((PySem.W.clsIn K C).isSome && (decide (PySem.W.findIn K (.ref C) "__class__" = some (some (.builtin "object.__class__"))) && (decide (PySem.W.specialIn K (.builtin "object.__class__") "__get__" = some (some (.builtin "getset_descriptor.__get__"))) &&
  (decide (PySem.W.takesIn K (.builtin "object.__class__") = some true) && decide (PySem.W.mroIn K C (.type "object") = some true)))))))))
theorem xclsB_ok {K : PySem.W.Frag} {C : Addr} (h : xclsB K C = true) : XCls K C := by
  obtain ⟨h1, h⟩ := ba h
  obtain ⟨h2, h⟩ := ba h
  obtain ⟨h3, h⟩ := ba h
  obtain ⟨h4, h⟩ := ba h
  obtain ⟨h5, h⟩ := ba h
  obtain ⟨h6, h⟩ := ba h
  obtain ⟨h7, h⟩ := ba h
  obtain ⟨h8, h⟩ := ba h
  obtain ⟨h9, h10⟩ := ba h
  have f := xfB_ok h5
  exact ⟨⟨oexB_ok h1, of_decide_eq_true h2, f.exC, of_decide_eq_true h3, h4⟩, f, h6, of_decide_eq_true h7, of_decide_eq_true h8, of_decide_eq_true h9, of_decide_eq_true h10⟩
/-- B hands its subclasses ValueError's own __init__ -/
structure BInit (K : PySem.W.Frag) (B : Addr) : Prop where
  s : PySem.W.specialIn K (.ref B) "__getattribute__" = some (some (.builtin "type.__getattribute__"))
  t : PySem.W.typeIn K (.ref B) = some (.type "type")
  r : PySem.W.readsIn K B (.type "type") = true
  v : PySem.W.findCls K (.ref B) (.type "type") "__init__" = some (.val (.builtin "ValueError.__init__"))
def binitB (K : PySem.W.Frag) (B : Addr) : Bool := decide (PySem.W.specialIn K (.ref B) "__getattribute__" = some (some (.builtin "type.__getattribute__"))) && (decide (PySem.W.typeIn K (.ref B) = some (.type "type")) && (PySem.W.readsIn K B (.type "type") &&
  (match PySem.W.findCls K (.ref B) (.type "type") "__init__" with
    | some (.val (.builtin n)) => decide (n = "ValueError.__init__")
    | _ => false)))
theorem binitB_ok {K : PySem.W.Frag} {B : Addr} (h : binitB K B = true) : BInit K B := by
  obtain ⟨h1, h⟩ := ba h
  obtain ⟨h2, h⟩ := ba h
  obtain ⟨h3, h4⟩ := ba h
  refine ⟨of_decide_eq_true h1, of_decide_eq_true h2, h3, ?_⟩
  split at h4
  · rename_i n e
    rw [e, of_decide_eq_true h4]
  · cases h4
/-! ### the head's facts: the module's names and what they reach, and the statics -/
noncomputable def asC (g : Addr → Option Obj) (n : Nat) : List Addr := asD g n ++ [PySem.cStatics]
noncomputable def obsC (n : Nat) (fa : List Fa) (fn : List DefD) (ts : List Tab) (ex : PySem.W.Frag → Bool) (g : Addr → Option Obj) : AlT × Bool := (obsT fa fn ts (frG g (asC g n)), ex (frG g (asC g n)))
structure SaysC (fa : List Fa) (fn : List DefD) (ts : List Tab) (ex : PySem.W.Frag → Bool) (w : World) (K : PySem.W.Frag) : Prop where
  t : SaysT fa fn ts w K
  more : ex K = true
/-! ### steps -/
section
variable {t u : TS} {te ta tb : TE} {tt tu : TT} {tr : TA} {D : Ends} {σ σ' : L2.St} {H : Hp} {Q : VK} {QB : Bool → Hp → Prop} {QA : List V → Hp → Prop} {g : TG} {i : Nat} {v : V} {r : R2} {K : PySem.W.Frag} {xs : List V} {p : Addr}
theorem s_seq (h : t { D with nx := u D } σ H) : tSeq t u D σ H := h
theorem s_asg (h : te σ H fun x H1 => g x σ H1 D.nx) : tAsg te g D σ H := h
theorem s_ret (h : te σ H D.rt) : tRet te D σ H := h
theorem s_drop (h : te σ H fun _ H1 => D.nx σ H1) : tDrop te D σ H := h
theorem s_next (h : D.nx σ H) : tNext D σ H := h
theorem s_if (h : tt σ H fun b H1 => if b = true then t D σ H1 else u D σ H1) : tIfS tt t u D σ H := h
theorem s_var (e : σ[i]? = some (some v)) (h : Q v H) : tVar i σ H Q := ⟨v, e, h⟩
theorem s_c (h : Q v H) : tC v σ H Q := h
theorem s_op (h : ta σ H fun x H1 => tb σ H1 fun y H2 => r x y H2 Q) : tOp r ta tb σ H Q := h
theorem s_nil (h : QA [] H) : tNil σ H QA := h
theorem s_cons (h : te σ H fun x H1 => tr σ H1 fun xs H2 => QA (x :: xs) H2) : tCons te tr σ H QA := h
theorem s_cb {rr : List V → Hp → VK → Prop} (h : tr σ H fun vs H1 => rr vs H1 Q) : tCB rr tr σ H Q := h
theorem s_call {sp : Sp} {dvs : List V} {E : XK} (h : tr σ H fun vs H1 => sp (vs ++ dvs) H1 Q E) : tCall sp dvs E tr σ H Q := h
theorem s_test (h : te σ H fun x H1 => ∃ k, x = .bl k ∧ QB k H1) : tTest te σ H QB := h
theorem s_bl {b : Bool} {QP : Bool → Prop} (h : QP b) : ∃ k, V.bl b = .bl k ∧ QP k := ⟨b, rfl, h⟩
theorem s_not (h : tt σ H fun c H1 => QB (!c) H1) : tNot tt σ H QB := h
theorem s_and (h : tt σ H fun c H1 => if c = true then tu σ H1 QB else QB false H1) : tAnd tt tu σ H QB := h
theorem s_or (h : tt σ H fun c H1 => if c = true then QB true H1 else tu σ H1 QB) : tOr tt tu σ H QB := h
theorem s_ife (h : tt σ H fun c H1 => if c = true then ta σ H1 Q else tb σ H1 Q) : tIf tt ta tb σ H Q := h
theorem s_name {QS : L2.St → Hp → Prop} (h : QS (σ.set i (some v)) H) : gName i v σ H QS := h
theorem s_sub {to ti : TE} {ts : TSet} {QS : L2.St → Hp → Prop} (h : to σ H fun o H1 => ti σ H1 fun i H2 => ts o i v H2 fun H3 => QS σ H3) : gSub to ti ts v σ H QS := h
theorem s_sl {rr : V → Option Int → Option Int → Hp → VK → Prop} {tl th : TO} (h : te σ H fun x H1 => tl σ H1 fun l H2 => th σ H2 fun u H3 => rr x l u H3 Q) : tSl rr te tl th σ H Q := h
theorem s_nopart {QO : Option Int → Hp → Prop} (h : QO none H) : tNoPart σ H QO := h
theorem s_part {QO : Option Int → Hp → Prop} (h : te σ H fun x H1 => ∃ i, x = .int i ∧ QO (some i) H1) : tPart te σ H QO := h
theorem s_int {QI : Int → Prop} {i : Int} (h : QI i) : ∃ k, V.int i = .int k ∧ QI k := ⟨i, rfl, h⟩
theorem s_lst (h : tr σ H fun xs H1 => xs.length ≤ sizeLine ∧ ∀ p, H1 p = none → Q (.ref p) (upd H1 p (.lst xs))) : tLst tr σ H Q := h
theorem s_tup (h : tr σ H fun xs H1 => xs.length ≤ sizeLine ∧ ∀ p, H1 p = none → Q (.ref p) (upd H1 p (.tup xs))) : tTup tr σ H Q := h
theorem s_bm {T : String} {rr : V → List V → Hp → VK → Prop} (h : te σ H fun x H1 => tyV K T x H1 ∧ tr σ H1 fun xs H2 => rr x xs H2 Q) : tBM K T rr te tr σ H Q := h
/-- a new object, the heap named anew -/
theorem same_upd {o : HO} (hp : H p = none) : Same H (upd H p o) := fun b u e => by
  rw [upd_ne (ne_of_none e hp)]
  exact e
end
end Cl
/-! Own layer, part 4: methods, the bag of the laws. -/
namespace Cl
open PySem PySem.Spec PyProof.Rows L2 He
section
variable {X : Cx}
def zApp : V → List V → Hp → VK → Prop := fun x vs H Q => match x, vs with
  | .ref l, [y] => ∃ xs, H l = some (.lst xs) ∧ xs.length < sizeLine ∧ Q .non (upd H l (.lst (xs ++ [y])))
  | _, _ => False
theorem mz_app : MtR X "list.append" zApp := by
  intro pins s σ H x vs v us Q I rx rv h
  match x, vs, h with
  | .ref l, [y], ⟨xs, h1, h2, q⟩ => exact mt_append pins s σ H _ _ v us Q I rx rv ⟨l, xs, y, rfl, rfl, h1, h2, q⟩
end
/-- the truth of a value, as a test -/
def tTru (K : PySem.W.Frag) (ta : TE) : TT := fun σ H Q => ta σ H fun x H' => ∃ k, TruV K x H' k ∧ Q k H'
/-! ### heaps -/
theorem sq_of {K : PySem.W.Frag} {H : Hp} {a : Addr} {xs : List V} (h : H a = some (.lst xs)) : SqL K H a xs := Or.inl (Or.inl h)
theorem fresh_upd {H : Hp} {p q : Addr} {o : HO} (h : upd H p o q = none) : H q = none ∧ q ≠ p := by
  by_cases e : q = p
  · rw [e, upd_same] at h
    cases h
  · rw [upd_ne e] at h
    exact ⟨h, e⟩
/-! ### steps over values -/
section
variable {H : Hp} {Q : VK} {K : PySem.W.Frag} {xs : List V} {v : V} {p : Addr} {i : Int} {n : Nat}
theorem s_addI {i j : Int} (h : Q (.int (i + j)) H) : zAdd (.int i) (.int j) H Q := h
theorem s_subI {i j : Int} (h : Q (.int (i - j)) H) : zSub (.int i) (.int j) H Q := h
theorem s_ltI {i j : Int} (h : Q (.bl (decide (i < j))) H) : zLt (.int i) (.int j) H Q := h
theorem s_leI {i j : Int} (h : Q (.bl (decide (i ≤ j))) H) : zLe (.int i) (.int j) H Q := h
theorem s_gtI {i j : Int} (h : Q (.bl (decide (j < i))) H) : zGt (.int i) (.int j) H Q := h
theorem s_geI {i j : Int} (h : Q (.bl (decide (j ≤ i))) H) : zGe (.int i) (.int j) H Q := h
theorem s_intc {i : Int} (h : Q (.int i) H) : zInt [.int i] H Q := h
theorem s_eq {x y : V} {b : Bool} (e : eqB x y = some b) (h : Q (.bl b) H) : zEq K x y H Q := by
  unfold zEq
  rw [e]
  exact h
theorem s_ne {x y : V} {b : Bool} (e : eqB x y = some b) (h : Q (.bl (!b)) H) : zNe K x y H Q := by
  unfold zNe
  rw [e]
  exact h
end
/-! ### the bag: its cells, the place, what is left of a great number, the seed -/
abbrev BagC (H : Hp) (b c : Addr) : Prop := ∃ (ns : List Int) (pos rest seed : Int), H b = some (.lst [.ref c, .int pos, .int rest, .int seed]) ∧ H c = some (.lst (ns.map V.int)) ∧ c ≠ b ∧ 0 ≤ pos
def Bag (H : Hp) (b : Addr) : Prop := ∃ c, BagC H b c
theorem BagC.same {H H' : Hp} {b c : Addr} (h : BagC H b c) (s : Same H H') : BagC H' b c := by
  obtain ⟨ns, pos, rest, seed, h1, h2, h3, h4⟩ := h
  exact ⟨ns, pos, rest, seed, s _ _ h1, s _ _ h2, h3, h4⟩
theorem BagC.ne {H : Hp} {b c D : Addr} (h : BagC H b c) (hD : H D = none) : D ≠ b ∧ D ≠ c := by
  obtain ⟨ns, pos, rest, seed, g1, g2, g3, g4⟩ := h
  exact ⟨(ne_of_none g1 hD).symm, (ne_of_none g2 hD).symm⟩
/-- all is kept but the bag, which is a bag -/
structure Bst (b : Addr) (H H' : Hp) : Prop where
  keep : ∀ a o, a ≠ b → H a = some o → H' a = some o
  bag : Bag H' b
  cell : ∀ c, BagC H b c → BagC H' b c
theorem Bag.some {H : Hp} {b : Addr} (h : Bag H b) : ∃ o, H b = some o := by
  obtain ⟨c, ns, pos, rest, seed, h, _⟩ := h
  exact ⟨_, h⟩
theorem Bst.refl {b : Addr} {H : Hp} (h : Bag H b) : Bst b H H := ⟨fun _ _ _ z => z, h, fun _ z => z⟩
theorem Bst.trans {b : Addr} {H H1 H2 : Hp} (a : Bst b H H1) (c : Bst b H1 H2) : Bst b H H2 := ⟨fun x o hx h => c.keep x o hx (a.keep x o hx h), c.bag, fun d z => c.cell d (a.cell d z)⟩
theorem Bst.fresh {b : Addr} {H H' : Hp} (a : Bst b H H') {p : Addr} (h : H' p = none) : H p = none := by
  cases e : H p with
  | none => rfl
  | some o =>
    by_cases hb : p = b
    · obtain ⟨u, hu⟩ := a.bag.some
      rw [hb, hu] at h
      cases h
    · rw [a.keep p o hb e] at h
      cases h
theorem Bag.same {H H' : Hp} {b : Addr} (h : Bag H b) (s : Same H H') : Bag H' b := by
  obtain ⟨c, ns, pos, rest, seed, h1, h2, h3, h4⟩ := h
  exact ⟨c, ns, pos, rest, seed, s _ _ h1, s _ _ h2, h3, h4⟩
def sp_l_bag (K : PySem.W.Frag) : Sp := fun vs H Q _ => ∃ (a : Addr) (ns : List Int), vs = [.ref a] ∧ SqL K H a (ns.map V.int) ∧ ∀ b H', Bag H' b → Same H H' → H b = none → Q (.ref b) H'
def sp_l_take (K : PySem.W.Frag) : Sp := fun vs H Q _ => ∃ (b : Addr) (n : Int), vs = [.ref b, .int n] ∧ Bag H b ∧ 0 < n ∧ n < 1073741824 ∧ ∀ (r : Int) H', 0 ≤ r → r < n → Bst b H H' → Q (.int r) H'
theorem len_l_bag {K : PySem.W.Frag} (vs : List V) (H : Hp) (Q : VK) (E : XK) (h : sp_l_bag K vs H Q E) : vs.length = 1 := by
  obtain ⟨a, ns, rfl, _⟩ := h
  rfl
theorem len_l_take {K : PySem.W.Frag} (vs : List V) (H : Hp) (Q : VK) (E : XK) (h : sp_l_take K vs H Q E) : vs.length = 2 := by
  obtain ⟨a, ns, rfl, _⟩ := h
  rfl
/-! ### errors: __init__ with one field, with two -/
def spX1 (C : Addr) (f : Str) : Sp := fun vs H Q _ => ∃ (a : Addr) (v : V), vs = [.ref a, v] ∧ H a = some (exo a C none) ∧ ∀ d, H d = none → d ≠ a → Q .non (upd (upd H d (exd d [(f, v)])) a (exo a C (some d)))
theorem len_X1 {C : Addr} {f : Str} (vs : List V) (H : Hp) (Q : VK) (E : XK) (h : spX1 C f vs H Q E) : vs.length = 2 := by
  obtain ⟨a, v, rfl, _⟩ := h
  rfl
/-- an error of the class C at a, with its fields -/
def XF (H : Hp) (a C : Addr) (fs : List (Str × V)) : Prop := ∃ d, H a = some (exo a C (some d)) ∧ H d = some (exd d fs)
theorem XF.same {H H' : Hp} {a C : Addr} {fs : List (Str × V)} (h : XF H a C fs) (s : Same H H') : XF H' a C fs := by
  obtain ⟨d, h1, h2⟩ := h
  exact ⟨d, s _ _ h1, s _ _ h2⟩
theorem XAt.same {H H' : Hp} {a C : Addr} (h : XAt H a C) (s : Same H H') : XAt H' a C := by
  rcases h with h | ⟨d, fs, h1, h2⟩
  · exact Or.inl (s _ _ h)
  · exact Or.inr ⟨d, fs, s _ _ h1, s _ _ h2⟩
/-- the bodies of such an __init__ -/
theorem pure_X1 {K : PySem.W.Frag} {C : Addr} {f : Str} {l : List Nat} (T : OexC K C) (no : PySem.W.findIn K (.ref C) f = some none) {x y : Str} (vs : List V) (H : Hp) (Q : VK) (E : XK) (h : spX1 C f vs H Q E) :
    tSeq (tDrop (tVeI K (tCons (tVar 0) (tCons (tC (sv l)) tNil)))) (tOst K f (tVar 0) (tVar 1)) { nx := fun _ H' => Q .non H', rt := Q } (start [x, y] vs) H := by
  obtain ⟨a, v, rfl, ha, k⟩ := h
  refine ⟨_, rfl, a, C, _, rfl, by show 1 ≤ 1000; decide, T, ha, ?_⟩
  exact ⟨_, rfl, _, rfl, a, C, rfl, T, no, Or.inl ⟨ha, fun d hd ne => k d hd ne⟩⟩
theorem cut_map {α β : Type} (f : α → β) (z : List α) (lo hi : Option Int) : cut (z.map f) lo hi = (cut z lo hi).map f := by
  unfold cut
  rw [List.map_take, List.map_drop, List.length_map]
end Cl
/-! Own layer, part 5: == of flat lists. -/
namespace Cl
open PySem PySem.Spec PyProof.Rows L2 He
def flat : V → Bool
  | .non | .bl _ | .int _ => true
  | .str x => PyData.strOk x
  | _ => false
section
variable {K : PySem.W.Frag} {H : Hp}
/-! ### errors read -/
theorem s_xfv {f : Str} {te : TE} {σ : L2.St} {Q : VK} (h : te σ H fun x H1 => ∃ (a C d : Addr) (fs : List (Str × V)) (v : V), x = .ref a ∧ XfC K C ∧ PySem.W.findIn K (.ref C) f = some none ∧ H1 a = some (exo a C (some d)) ∧ H1 d = some (exd d fs) ∧ fs.lookup f = some v ∧ Q v H1) : tXfv K f te σ H Q := h
theorem s_tru {te : TE} {σ : L2.St} {QB : Bool → Hp → Prop} (h : te σ H fun x H' => ∃ k, TruV K x H' k ∧ QB k H') : tTru K te σ H QB := h
theorem s_yes {σ : L2.St} {QB : Bool → Hp → Prop} (h : QB true H) : tYes σ H QB := h
/-! ### errors made -/
end
/-! ### texts of small signs -/
abbrev asc (l : List Nat) : Prop := ∀ c ∈ l, c < 128
theorem cut_len {α : Type} (a : List α) (lo hi : Option Int) : (cut a lo hi).length ≤ a.length := by
  unfold cut
  rw [List.length_take, List.length_drop]
  omega
end Cl
/-! Own layer, part 6: list, sorted, set of a text. -/
namespace Cl
open PySem PySem.Spec PyProof.Rows L2 He
/-- the signs of a text, each as a text -/
abbrev sgs (z : List Nat) : List V := z.map fun c => sv [c]
theorem sgs_eq (z : List Nat) : sgs z = (z.map fun c => S [c]).map V.str := by
  rw [List.map_map]
  rfl
theorem signs_vals {z : List Nat} {acc : Array Value} (h : ItemsOf (SignAt (S z)) acc (S z).cps.size) : Vals (sgs z) acc.toList := by
  refine vals_of_idx _ _ ?_ fun j u hj => ?_
  · rw [List.length_map, Array.length_toList, h.1]
    rfl
  · obtain ⟨c, t, hc, rfl⟩ := h.2 j u (by rw [← Array.getElem?_toList]; exact hj)
    have hz : z[j]? = some c := by simpa using hc
    exact ⟨sv [c], by rw [List.getElem?_map, hz]; rfl, ⟨t, rfl⟩⟩
theorem signs_strs {z : List Nat} {acc : Array Value} (h : ItemsOf (SignAt (S z)) acc (S z).cps.size) : StrsAre acc.toList (z.map fun c => S [c]) := by
  refine L2.strs_at ?_ fun j v hj => ?_
  · rw [List.length_map, Array.length_toList, h.1]
    rfl
  · obtain ⟨c, t, hc, rfl⟩ := h.2 j v (by rw [← Array.getElem?_toList]; exact hj)
    have hz : z[j]? = some c := by simpa using hc
    exact ⟨S [c], t, by rw [List.getElem?_map, hz]; rfl, rfl⟩
section
variable {X : Cx}
/-- list(x): of a list, a tuple, a text -/
def zListT (K : PySem.W.Frag) : List V → Hp → VK → Prop := fun xs H Q => match xs with
  | [.ref p] => ∃ ys, (SqL K H p ys ∨ SqT K H p ys) ∧ ∀ l, H l = none → Q (.ref l) (upd H l (.lst ys))
  | [.str ⟨⟨z⟩⟩] => z.length ≤ sizeLine ∧ ∀ l, H l = none → Q (.ref l) (upd H l (.lst (sgs z)))
  | _ => False
theorem cz_listT (hc : X.calm = true) : CallR X (.type "list") (zListT X.K) := by
  intro pins s σ H xs us Q I r h
  match xs, h with
  | [.ref p], ⟨ys, h1, q⟩ => exact call_list_of pins s σ H _ us Q I r ⟨p, ys, rfl, h1, q⟩
  | [.str ⟨⟨z⟩⟩], ⟨hz, q⟩ =>
    obtain ⟨u, rfl, t, rfl⟩ := vals1 r
    refine call_list_str (I.ok.hd hc) _ t (fun h' tk acc c' hk e hi => ?_) hz
    refine ⟨.ref s.heap.objs.size, upd H s.heap.objs.size (.lst (sgs z)), I.laid hk (Nat.le_refl _) ⟨by rw [List.length_map]; exact hz, acc.toList, c', signs_vals hi, by rw [Array.toArray_toList]; exact e⟩, rfl, q _ (I.hok.fresh (Nat.le_refl _))⟩
/-- sorted(x): of a list of texts, of a text -/
def zSorted (K : PySem.W.Frag) : List V → Hp → VK → Prop := fun xs H Q => match xs with
  | [.ref a] => ∃ ys : List Str, SqL K H a (ys.map V.str) ∧ ys.length < 64 ∧ ∀ (zs : List Str) (p : Addr), zs.Perm ys → sortedS zs = true → H p = none → Q (.ref p) (upd H p (.lst (zs.map V.str)))
  | [.str ⟨⟨z⟩⟩] => z.length < 64 ∧ ∀ (zs : List Str) (p : Addr), zs.Perm (z.map fun c => S [c]) → sortedS zs = true → H p = none → Q (.ref p) (upd H p (.lst (zs.map V.str)))
  | _ => False
theorem cz_sorted (hc : X.calm = true) : CallR X (.builtin "sorted") (zSorted X.K) := by
  intro pins s σ H xs us Q I r h
  match xs, h with
  | [.ref a], ⟨ys, h1, h2, q⟩ => exact cr_sortedS pins s σ H _ us Q I r ⟨a, ys, rfl, h1, h2, q⟩
  | [.str ⟨⟨z⟩⟩], ⟨h64, q⟩ =>
    obtain ⟨u, rfl, t, rfl⟩ := vals1 r
    refine Calls.call_function_entry PyProof.Rows.kind_sorted PyProof.Rows.plain_sorted PyProof.Rows.entry_sorted (PyProof.Rows.args_sorted1 _) ?_
    unfold Builtin.«sorted»
    refine wpAny_bind (m := checkCount "sorted" 1 1 _) (wpAny_pure ?_)
    refine wpAny_bind (wpAny_collect_str (A := X.A.in1) (I.ok.hd hc) (S z) t (fun s1 acc hk hg hd ho hacc => ?_) (by show z.length ≤ sizeLine; rw [sizeLine_eq]; omega))
    have hS := signs_strs hacc
    have hal : acc.toList.length = z.length := by rw [Array.length_toList, hacc.1]; rfl
    obtain ⟨hp, g1, d1, tk, o1⟩ := s1
    have eg : g1 = s.gens := hg
    have eo : o1 = s.os := ho
    have ed : d1 = s.drawn := hd
    subst eg eo ed
    have I1 : Inv X pins σ H { s with heap := hp, toks := tk } := I.kept hk
    refine wpAny_bind (wpAny_newList ?_ (by rw [hal, sizeLine_eq]; omega))
    have hoL : (hp.push (seqObj "list" acc.toList.toArray 0)).get? hp.objs.size = some (seqObj "list" acc.toList.toArray 0) := Heap.get?_push_size _ rfl
    show wpAny _ _ _ _ _ { s with heap := hp.push (seqObj "list" acc.toList.toArray 0), toks := tk }
    refine wpAny_bind (wpAny_holding (wpAny_call_entry PyProof.Rows.slot_list_sort ⟨_, hoL, rfl⟩ PyProof.Rows.entry_list_sort (list_sort_treeK strKind_oneLt (s := { s with heap := hp.push (seqObj "list" acc.toList.toArray 0), toks := tk }) hoL hS.keysOf
      (fun v₁ v₂ rest e => keyKind_strs (by rw [← e]; exact hS)) (by rw [hal]; exact h64) fun st' hpm hs => ⟨_, rfl, ?_⟩) (PyProof.Rows.args_list_sort _)))
    obtain ⟨zs, k1, k2, k3⟩ := sorted_out_str hS hpm hs
    obtain ⟨e', he'⟩ := PyProof.Rows.sortedHeap_at (vs := acc.toList) (out := (arrOf st').map (·.2)) hoL
    have hlen : (zs.map V.str).length ≤ sizeLine := by
      rw [List.length_map, k2.length_eq, List.length_map, sizeLine_eq]
      omega
    refine wpAny_pure ⟨_, rfl, .ref hp.objs.size, upd H hp.objs.size (.lst (zs.map V.str)), I1.laid (t' := tk) (fun b u e => ?_) (Nat.le_refl _)
      (show ObjOk X.prog X.w _ _ _ (.lst (zs.map V.str)) from ⟨hlen, ((arrOf st').map (·.2)).toList, e', vals_of_strs k1, by rw [Array.toArray_toList]; exact he'⟩), rfl, q zs _ k2 k3 (I1.hok.fresh (Nat.le_refl _))⟩
    have hb : b < hp.objs.size := Heap.lt_size e
    rw [PyProof.Rows.sortedHeap_old (Nat.ne_of_lt hb) (by rw [size_push']; exact Nat.lt_succ_of_lt hb)]
    exact Heap.get?_push_of_some _ e
end
end Cl
/-! Own layer, part 7: the set of a text's signs: made, its len, sorted. -/
namespace Cl
open PySem PySem.Spec PyProof.Rows L2 He PySem.Froz
/-- the payload D holds just the texts l; it can be walked -/
structure TxR (P : Program) (w : World) (D : SD) (l : List Str) : Prop where
  ok : TxOk P w D l
  ris : Ris D.2.2.place.toList
  led : w.params.followText "set-order" = true ∨ D.2.2.led = true
theorem tail_ris {ep : Nat} {es : Array (Int × Value)} {t : SetTable} {d : Bool} (h : Ris t.place.toList) : Ris (tailTx ep es t d).2.2.place.toList := by
  unfold tailTx
  split
  · exact relayAll_ris t es _
  · exact h
theorem tail_led {ep : Nat} {es : Array (Int × Value)} {t : SetTable} {d : Bool} : (tailTx ep es t d).2.2.led = t.led := by
  unfold tailTx
  split
  · exact relayAll_led t es _
  · rfl
section
variable {P : Program} {w : World} {A : Around} {E : Value → Shared → Prop} {s : Shared}
theorem TxR.add {D : SD} {l : List Str} {k : Str} (u : Tok) (T : TxR P w D l) : TxR P w (addTx (hashStr w k) (.str k u) D) (k :: l) := by
  refine ⟨add_ok u T.ok, ?_, ?_⟩
  · unfold addTx
    refine tail_ris ?_
    split
    · exact layNew_ris _ _ _ _ T.ris
    · exact layNew_ris _ _ _ _ T.ris
  · refine T.led.imp id fun h => ?_
    unfold addTx
    rw [tail_led]
    split
    · show (layNew D.2.2 D.1 (hashStr w k) (.str k u)).2.1.led = true
      rw [layNew_led]
      exact h
    · rw [layNew_led]
      exact h
/-- a text that is in is not added -/
theorem add_old {a : Addr} {D : SD} {l : List Str} {k : Str} {u : Tok} {Q : Bool → Shared → Prop} (ho : s.heap.get? a = some (sObj "set" D)) (F : TxOk P w D l) (hk : k ∈ l) (hb : l.length < scanBound) (h : Q false s) :
    wpAny (model P w) A (setAddHashed a (.str k u) (hashStr w k)) Q E s := by
  obtain ⟨es, ep, t⟩ := D
  have hb0 : es.size < scanBound := by rw [show es.size = l.length from F.sz]; exact hb
  have hsome : ∃ j, List.findIdx? (fun e => (strKind P w).is k e.2) es.toList = some j := by
    cases q : List.findIdx? (fun e => (strKind P w).is k e.2) es.toList with
    | some j => exact ⟨j, rfl⟩
    | none =>
      obtain ⟨e, he, hp⟩ := (F.mem k).mp hk
      have z := List.findIdx?_eq_none_iff.mp q e he
      rw [hp] at z
      cases z
  obtain ⟨j, hj⟩ := hsome
  unfold setAddHashed setAddHashedIn
  refine wpAny_holding (wpAny_bind (wpAny_setState_of ho rfl F.fit ?_))
  dsimp only
  rw [byScan_of rfl hb0 F.el]
  simp only [↓reduceIte]
  unfold setAddByScan
  refine wpAny_bind (wpAny_bind (wpAny_rule (wpAny_bind (wpAny_setScan_of (knd := strKind P w) (k := k) (Froz.is_str k u) ho rfl F.fit F.el ?_))))
  rw [hj]
  dsimp only
  exact wpAny_pure (wpAny_pure h)
end
section
variable {P : Program} {w : World} {A : Around} {R : Result → Shared → Prop} {I : Addr} {fp wr : List Addr} {G : Array GenState → Array GenState → Prop} {n : Nat} {Pv : Nat → Value → Prop} {St : Nat → Shared → Prop}
/-- the rest of a walk over texts goes into the set -/
theorem set_loop (W : WalksS P w A.in1 I fp wr G n Pv St) (a : Addr) (ha : a ∉ fp) (val : Nat → Str) (hval : ∀ i v, Pv i v → ∃ t, v = .str (val i) t) (hb : n + 1 < scanBound) : ∀ (k i : Nat) (s : Shared) (D : SD) (l : List Str), n - i = k → i ≤ n → St i s →
    s.heap.get? a = some (sObj "set" D) → TxR P w D l → l.Nodup → l.length ≤ i →
    (∀ s' D' l', Moved (a :: wr) G s s' → s'.heap.get? a = some (sObj "set" D') → TxR P w D' l' → l'.Nodup → (∀ x, x ∈ l' ↔ x ∈ l ∨ ∃ j, i ≤ j ∧ j < n ∧ x = val j) → l'.length ≤ n → R (.ok (.ret .none)) s') →
    codeAny (model P w) A (.builtin "set.update.loop" ⟨[.ref a, .ref I], []⟩) R s := by
  have haw : a ∉ wr := fun h => ha (W.sub _ h)
  have up : ∀ b ∈ wr, b ∈ a :: wr := fun b h => List.mem_cons_of_mem _ h
  intro k
  induction k with
  | zero =>
    intro i s D l hk hi st ho T nd hl hR
    obtain rfl : i = n := by omega
    refine codeAny_builtin PyProof.Rows.F.entry_set_update_loop ?_
    rw [Around.under_plainId PyProof.Rows.F.plain_set_update_loop _]
    refine wpAny_bind (W.done s _ _ st fun s' hm => wpAny_pure (hR s' D l (hm.mono up) (hm.heap a _ haw ho) T nd (fun x => ⟨Or.inl, fun h => ?_⟩) hl))
    rcases h with h | ⟨j, h1, h2, _⟩
    · exact h
    · omega
  | succ k ih =>
    intro i s D l hk hi st ho T nd hl hR
    have hlt : i < n := by omega
    refine codeAny_builtin PyProof.Rows.F.entry_set_update_loop ?_
    rw [Around.under_plainId PyProof.Rows.F.plain_set_update_loop _]
    refine wpAny_bind (W.item i s _ _ hlt st fun v s1 hv st1 hm => ?_)
    obtain ⟨t, rfl⟩ := hval i v hv
    have ho1 := hm.heap a _ haw ho
    refine wpAny_bind (wpAny_holding ?_)
    unfold setAdd
    refine wpAny_holding (wpAny_bind ((strKind P w).pyHash (k := val i) (Froz.is_str _ _) ?_))
    have go : ∀ (h2 : Heap) (D2 : SD) (l2 : List Str), (∀ b o, b ≠ a → s1.heap.get? b = some o → h2.get? b = some o) → h2.get? a = some (sObj "set" D2) → TxR P w D2 l2 → l2.Nodup → l2.length ≤ i + 1 → (∀ x, x ∈ l2 ↔ x ∈ l ∨ x = val i) →
        codeAny (model P w) A (.builtin "set.update.loop" ⟨[.ref a, .ref I], []⟩) R { s1 with heap := h2, toks := s1.toks + 1 } := fun h2 D2 l2 kp ho2 T2 nd2 hl2 m2 => by
      refine ih (i + 1) _ D2 l2 (by omega) hlt (W.frame _ s1 _ _ st1 (Nat.le_succ _) fun b hb o e => kp b o (fun z => ha (z ▸ hb)) e) ho2 T2 nd2 hl2 fun s' D' l' mv ho' T' nd' m' hl' => ?_
      refine hR s' D' l' (Moved.trans W.gtrans ((hm.mono up).then_heap (Nat.le_succ _) fun b o hb e => kp b o (fun z => hb (by rw [z]; exact List.mem_cons_self)) e) mv) ho' T' nd' (fun x => ?_) hl'
      rw [m', m2]
      constructor
      · rintro ((h | h) | ⟨j, h1, h2, h3⟩)
        · exact Or.inl h
        · exact Or.inr ⟨i, Nat.le_refl _, hlt, h⟩
        · exact Or.inr ⟨j, by omega, h2, h3⟩
      · rintro (h | ⟨j, h1, h2, h3⟩)
        · exact Or.inl (Or.inl h)
        · by_cases e : j = i
          · exact Or.inl (Or.inr (e ▸ h3))
          · exact Or.inr ⟨j, by omega, h2, h3⟩
    by_cases hin : val i ∈ l
    · refine add_old (s := { s1 with toks := s1.toks + 1 }) ho1 T.ok hin (by omega) (wpAny_pure ⟨plainId_quiet PyProof.Rows.F.plain_set_update_loop _, ?_⟩)
      exact go s1.heap D l (fun _ _ _ e => e) ho1 T nd (by omega) fun x => ⟨Or.inl, fun h => h.elim id fun e => e ▸ hin⟩
    · refine add_x (s := { s1 with toks := s1.toks + 1 }) ho1 T.ok hin (by omega) (wpAny_pure ⟨plainId_quiet PyProof.Rows.F.plain_set_update_loop _, ?_⟩)
      refine go _ _ (val i :: l) (fun b o hb e => (Heap.get?_update_other _ _ (Ne.symm hb)).trans e) (Froz.get_upd _ ho1 rfl) (T.add t) (List.nodup_cons.mpr ⟨hin, nd⟩) (by show l.length + 1 ≤ i + 1; omega) fun x => ?_
      rw [List.mem_cons]
      exact Or.comm
end
/-- the empty set as it is made -/
abbrev nD (w : World) : SD := (#[], 0, .fresh 0 0 (!w.params.followText "set-order"))
theorem nD_ok (P : Program) (w : World) : TxR P w (nD w) [] := by
  refine ⟨TxOk.nil rfl, List.Pairwise.nil, ?_⟩
  show _ ∨ (!w.params.followText "set-order") = true
  cases w.params.followText "set-order"
  · exact .inr rfl
  · exact .inl rfl
section
variable {P : Program} {w : World} {A : Around} {E : Value → Shared → Prop} {s : Shared}
theorem code_new1 (v : Value) {Q₁ : Value → Shared → Prop} (h : Q₁ (.ref s.heap.objs.size) { s with heap := s.heap.push (sObj "set" (nD w)) }) : codeAny (model P w) A (.call (.builtin "set.__new__") ⟨[.type "set", v], []⟩) (wants Q₁ E) s := by
  refine codeAny_of_tree ?_
  refine wpAny_bind (wpAny_of_eq (PySem.F.newCall_set_1 v) (wpAny_pure ⟨plainId_quiet F.plain_set_new _, codeAny_builtin F.entry_set_new ?_⟩))
  rw [Around.under_plainId F.plain_set_new _]
  unfold Builtin.«set.__new__» Builtin.Frozenset.newClass
  have hsub := sub_set_self
  obtain ⟨hp, g, d, tk, os⟩ := s
  dsimp only
  wp_walk
  refine wpAny_askSetting (wpAny_pure ?_)
  dsimp only
  simp only [newObj]
  exact wpAny_bind (wpAny_alloc (wpAny_pure (wpAny_pure h)))
end
end Cl
namespace Cl
open PySem PySem.Spec PyProof.Rows L2 He PySem.Froz
theorem sub_str_set : isSubtype (.type "str") (.type "set") = pure false := by rw [isSubtype_type]; kernel_rfl
theorem sub_str_fz : isSubtype (.type "str") (.type "frozenset") = pure false := by rw [isSubtype_type]; kernel_rfl
section
variable {P : Program} {w : World} {A : Around} {E : Value → Shared → Prop} {s : Shared}
theorem call_set_txt {z : List Nat} {tz : Tok} {Q : Value → Shared → Prop} (hh : A.handled = none) (hb : z.length + 1 < scanBound)
    (h : ∀ (h' : Heap) (tk : Nat) (D : SD) (l : List Str), h'.get? s.heap.objs.size = some (sObj "set" D) → TxR P w D l → l.Nodup → (∀ x, x ∈ l ↔ ∃ c ∈ z, x = S [c]) → l.length ≤ z.length →
      (∀ b o, s.heap.get? b = some o → h'.get? b = some o) → Q (.ref s.heap.objs.size) { s with heap := h', toks := tk }) :
    wpAny (model P w) A (call (.type "set") [.str (S z) tz]) Q E s := by
  obtain ⟨c, tl, hmro⟩ := PySem.F.called_set.mro
  have hmade := PySem.F.called_set.made
  have hsub := PySem.F.called_set.sub
  refine wpAny_call (codeAny_of_tree ?_)
  show wpAny _ _ (callAny (.type "set") _) _ _ _
  refine wpAny_pure ⟨Code.quiet_builtin _ (by decide +kernel), codeAny_builtin PySem.F.entry_type_call ?_⟩
  rw [Around.under_plain (weight_type_call_type "set" [.str (S z) tz] []) rfl]
  have h1 := PySem.F.called_set.notType
  have h2 := PySem.F.called_set.canCreate
  have hct := PySem.F.typeCall_set_1 (.str (S z) tz)
  repeat (any_goals (first | assumption | wp_step))
  refine codeAny_mono (code_new1 (.str (S z) tz) (E := E) (Q₁ := fun obj s₁ => obj = .ref s.heap.objs.size ∧ s₁ = { s with heap := s.heap.push (sObj "set" (nD w)) }) ⟨rfl, rfl⟩) fun r s₁ hr => ?_
  cases r with
  | error e => exact hr
  | ok fl =>
    cases fl with
    | ret obj =>
      obtain ⟨rfl, rfl⟩ := hr
      have hS : (s.heap.push (sObj "set" (nD w))).get? s.heap.objs.size = some (sObj "set" (nD w)) := Heap.get?_push_size _ rfl
      have hT : Shared.TypeIs { s with heap := s.heap.push (sObj "set" (nD w)) } (.ref s.heap.objs.size) "set" := ⟨_, hS, rfl⟩
      have hli := PySem.F.called_set.init.lookup
      have hbi := PySem.F.called_set.init.bind (.ref s.heap.objs.size)
      repeat (any_goals (first | assumption | wp_step))
      refine codeAny_mono (codeAny_call_builtin (R := wants (fun r s₂ => r = .none ∧ ∃ h' tk D l, s₂ = { s with heap := h', toks := tk } ∧ h'.get? s.heap.objs.size = some (sObj "set" D) ∧ TxR P w D l ∧ l.Nodup ∧ (∀ x, x ∈ l ↔ ∃ c ∈ z, x = S [c]) ∧ l.length ≤ z.length ∧
        (∀ b o, s.heap.get? b = some o → h'.get? b = some o)) E) PySem.F.called_set.init.plain PySem.F.entry_set_init (check_set_init_1 hT ?_)) fun r₂ s₂ hr₂ => ?_
      · have e1 := sub_str_set
        have e2 := sub_str_fz
        have e3 : (Value.type "str" == Value.type "dict") = false := by decide
        unfold Builtin.«set.__init__» noKeywords Builtin.Frozenset.updateFrom
        generalize hPI : pyIter = PI
        wp_walk
        subst hPI
        refine wpAny_pyIter_str fun o St W hst => ?_
        refine wpAny_bind (wpAny_runValue ?_)
        have hh3 : A.in1.in1.in1.handled = none := by simp [hh]
        have ne : s.heap.objs.size ≠ (s.heap.push (sObj "set" (nD w))).objs.size := by
          rw [Heap.size_push]
          exact Nat.ne_of_lt (Nat.lt_succ_self _)
        refine set_loop ((W _ hh3).toS) s.heap.objs.size (fun m => ne (List.mem_singleton.mp m)) (fun i => S [z.getD i 0]) (fun i v hv => ?_) hb (z.length - 0) 0 _ (nD w) [] (by show z.length - 0 = _; omega) (Nat.zero_le _) hst
          (Heap.get?_push_of_some _ hS) (nD_ok P w) List.nodup_nil (Nat.le_refl _) fun s' D l mv ho T nd m hl => ?_
        · obtain ⟨c, u, hc, rfl⟩ := hv
          have hz : z[i]? = some c := by simpa using hc
          exact ⟨u, by rw [List.getD_eq_getElem?_getD, hz]; rfl⟩
        · obtain ⟨h', g', d', tk', os'⟩ := s'
          have eg : g' = s.gens := mv.gens
          have ed : d' = s.drawn := mv.drawn
          have eo : os' = s.os := mv.os
          subst eg ed eo
          refine wpAny_pure (wpAny_pure ⟨rfl, h', tk', D, l, rfl, ho, T, nd, fun x => ?_, hl, fun b u e => ?_⟩)
          · rw [m x]
            constructor
            · rintro (q | ⟨j, _, hj, rfl⟩)
              · cases q
              · have hj' : j < z.length := hj
                exact ⟨z[j], List.getElem_mem hj', by rw [List.getD_eq_getElem?_getD, List.getElem?_eq_getElem hj']; rfl⟩
            · rintro ⟨c, hc, rfl⟩
              obtain ⟨j, hj, e⟩ := List.mem_iff_getElem.mp hc
              exact Or.inr ⟨j, Nat.zero_le _, hj, by rw [List.getD_eq_getElem?_getD, List.getElem?_eq_getElem hj, e]; rfl⟩
          · have hlt := Heap.lt_size e
            refine mv.heap b u (fun q => ?_) (Heap.get?_push_of_some _ (Heap.get?_push_of_some _ e))
            rcases List.mem_cons.mp q with q | q
            · exact absurd q (Nat.ne_of_lt hlt)
            · have q2 := List.mem_singleton.mp q
              have e2 : (s.heap.push (sObj "set" (nD w))).objs.size = s.heap.objs.size + 1 := by rw [Heap.size_push]
              have q3 : b = (s.heap.push (sObj "set" (nD w))).objs.size := q2
              exact absurd hlt (by rw [q3, e2]; exact Nat.not_lt.mpr (Nat.le_succ _))
      · cases r₂ with
        | error e => exact hr₂
        | ok fl₂ =>
          cases fl₂ with
          | ret r =>
            obtain ⟨rfl, h', tk, D, l, rfl, k1, k2, k3, k4, k5, k6⟩ := hr₂
            repeat (any_goals (first | assumption | wp_step))
            exact h h' tk D l k1 k2 k3 k4 k5 k6
          | _ => exact hr₂.elim
    | _ => exact hr.elim
end
end Cl
namespace Cl
open PySem PySem.Spec PyProof.Rows L2 He PySem.Froz
/-! ### over the layer -/
/-- lists without doubles -/
theorem perm_of {α : Type} [BEq α] [LawfulBEq α] : ∀ {l m : List α}, l.Nodup → (∀ x, x ∈ l → x ∈ m) → m.length ≤ l.length → m.Perm l
  | [], m, _, _, h => by
    have : m = [] := List.length_eq_zero_iff.mp (by simpa using h)
    rw [this]
  | x :: t, m, nd, sub, h => by
    obtain ⟨hx, nt⟩ := List.nodup_cons.mp nd
    have hm := sub x List.mem_cons_self
    have p := List.perm_cons_erase hm
    have l1 := p.length_eq
    simp only [List.length_cons] at l1 h
    have ih := perm_of (l := t) (m := m.erase x) nt (fun y hy => (List.mem_erase_of_ne (fun e => hx (by rw [← e]; exact hy))).mpr (sub y (List.mem_cons_of_mem _ hy))) (by omega)
    exact p.trans (ih.cons x)
theorem len_le_of {α : Type} [BEq α] [LawfulBEq α] : ∀ {l m : List α}, l.Nodup → (∀ x, x ∈ l → x ∈ m) → l.length ≤ m.length
  | [], m, _, _ => Nat.zero_le _
  | x :: t, m, nd, sub => by
    obtain ⟨hx, nt⟩ := List.nodup_cons.mp nd
    have p := List.perm_cons_erase (sub x List.mem_cons_self)
    have l1 := p.length_eq
    simp only [List.length_cons] at l1 ⊢
    have ih := len_le_of (l := t) (m := m.erase x) nt (fun y hy => (List.mem_erase_of_ne (fun e => hx (by rw [← e]; exact hy))).mpr (sub y (List.mem_cons_of_mem _ hy)))
    omega
/-- the set of the texts l -/
def TxS (P : Program) (w : World) (a : Addr) (l : List Str) : HO := .ext fun h => ∃ D, h.get? a = some (sObj "set" D) ∧ TxR P w D l
theorem txS_ok {P : Program} {w : World} {H : Hp} {h : Heap} {a : Addr} {D : SD} {l : List Str} (e : h.get? a = some (sObj "set" D)) (T : TxR P w D l) : ObjOk P w H h a (TxS P w a l) :=
  ⟨⟨D, e, T⟩, ⟨_, e⟩, fun _ _ ⟨D, q, r⟩ k => ⟨D, k _ q, r⟩⟩
section
variable {X : Cx}
/-- set(text) -/
def zSet (P : Program) (w : World) : List V → Hp → VK → Prop := fun xs H Q => match xs with
  | [.str ⟨⟨z⟩⟩] => z.length ≤ 1000 ∧ ∀ p l, H p = none → l.Nodup → (∀ x, x ∈ l ↔ ∃ c ∈ z, x = S [c]) → l.length ≤ z.length → Q (.ref p) (upd H p (TxS P w p l))
  | _ => False
theorem cz_set (hc : X.calm = true) : CallR X (.type "set") (zSet X.prog X.w) := by
  intro pins s σ H xs us Q I r h
  match xs, h with
  | [.str ⟨⟨z⟩⟩], ⟨hz, q⟩ =>
    obtain ⟨u, rfl, t, rfl⟩ := vals1 r
    refine call_set_txt (I.ok.hd hc) (by unfold scanBound; omega) fun h' tk D l e T nd m hl k => ?_
    exact ⟨.ref s.heap.objs.size, upd H s.heap.objs.size (TxS X.prog X.w s.heap.objs.size l), I.laid (t' := tk) k (Nat.le_refl _) (txS_ok e T), rfl, q _ l (I.hok.fresh (Nat.le_refl _)) nd m hl⟩
/-- len(x), of a set of texts, too -/
def zLenS (P : Program) (w : World) (K : PySem.W.Frag) : List V → Hp → VK → Prop := fun xs H Q => zLen K xs H Q ∨ ∃ p l, xs = [.ref p] ∧ H p = some (TxS P w p l) ∧ l.length ≤ 1000 ∧ Q (.int l.length) H
theorem cz_lenS : CallR X (.builtin "len") (zLenS X.prog X.w X.K) := by
  intro pins s σ H xs us Q I r h
  rcases h with h | ⟨p, l, rfl, hp, hl, q⟩
  · exact cz_len pins s σ H xs us Q I r h
  · obtain ⟨u, rfl, rfl⟩ := vals1 r
    obtain ⟨⟨D, e, T⟩, _⟩ := I.hok p _ hp
    refine call_len_set e ⟨rfl, rfl, rfl⟩ rfl T.ok.fit (by rw [T.ok.sz]; omega) ⟨.int l.length, H, I.tok _, ⟨_, by rw [T.ok.sz]⟩, q⟩
/-- sorted(x), of a set of texts -/
def zSortedS (P : Program) (w : World) (K : PySem.W.Frag) : List V → Hp → VK → Prop := fun xs H Q => zSorted K xs H Q ∨ ∃ a l, xs = [.ref a] ∧ H a = some (TxS P w a l) ∧ l.length < 64 ∧ l.Nodup ∧
  ∀ (zs : List Str) (p : Addr), zs.Perm l → sortedS zs = true → H p = none → Q (.ref p) (upd H p (.lst (zs.map V.str)))
theorem TxR.vals {P : Program} {w : World} {D : SD} {l : List Str} (T : TxR P w D l) (nd : l.Nodup) : ∃ ks : List Str, ks.Perm l ∧ StrsAre (D.1.toList.map (·.2)) ks := by
  have key : ∀ es : List (Int × Value), ElemsOf (strKind P w) es → ∃ ks : List Str, StrsAre (es.map (·.2)) ks ∧ ∀ k, k ∈ ks ↔ ∃ e ∈ es, (strKind P w).is k e.2 = true := by
    intro es
    induction es with
    | nil => exact fun _ => ⟨[], .nil, fun k => by simp⟩
    | cons e es ih =>
      intro h
      obtain ⟨ks, h1, h2⟩ := ih h.tail
      obtain ⟨⟨k, hk, _⟩, _⟩ := h.head
      obtain ⟨t, ht⟩ := Value.isStrOf_shape (x := k) (v := e.2) hk
      refine ⟨k :: ks, by rw [List.map_cons, ht]; exact .cons k t h1, fun x => ?_⟩
      rw [List.mem_cons, h2 x]
      constructor
      · rintro (rfl | ⟨e', he', q⟩)
        · exact ⟨e, List.mem_cons_self, hk⟩
        · exact ⟨e', List.mem_cons_of_mem _ he', q⟩
      · rintro ⟨e', he', q⟩
        rcases List.mem_cons.mp he' with rfl | he'
        · refine Or.inl ?_
          rw [ht] at q
          obtain ⟨t', q'⟩ := Value.isStrOf_shape (x := x) (v := .str k t) q
          cases q'
          rfl
        · exact Or.inr ⟨e', he', q⟩
  obtain ⟨ks, h1, h2⟩ := key D.1.toList T.ok.el
  refine ⟨ks, ?_, h1⟩
  have hlen : ks.length = l.length := by
    rw [← StrsAre.len_eq h1, List.length_map, Array.length_toList]
    exact T.ok.sz
  have sub : ∀ x, x ∈ l → x ∈ ks := fun x hx => (h2 x).mpr ((T.ok.mem x).mp hx)
  exact perm_of nd sub (by omega)
theorem cz_sortedS (hc : X.calm = true) : CallR X (.builtin "sorted") (zSortedS X.prog X.w X.K) := by
  intro pins s σ H xs us Q I r h
  rcases h with h | ⟨a, l, rfl, ha, h64, nd, q⟩
  · exact cz_sorted hc pins s σ H xs us Q I r h
  · obtain ⟨u, rfl, rfl⟩ := vals1 r
    obtain ⟨⟨D, e, T⟩, _⟩ := I.hok a _ ha
    obtain ⟨ks, pk, hks⟩ := T.vals nd
    have hsz : D.1.size = l.length := T.ok.sz
    refine Calls.call_function_entry PyProof.Rows.kind_sorted PyProof.Rows.plain_sorted PyProof.Rows.entry_sorted (PyProof.Rows.args_sorted1 _) ?_
    unfold Builtin.«sorted»
    refine wpAny_bind (m := checkCount "sorted" 1 1 _) (wpAny_pure ?_)
    refine wpAny_bind (collect_set (A := X.A.in1) (I.ok.hd hc) ⟨_, e, rfl, rfl⟩ T.ok.fit (by rw [hsz]; unfold scanBound; omega) T.ris T.led fun s1 vs hk hz hg ho pm => ?_)
    have hvl : vs.length = l.length := by rw [pm.length_eq, List.length_map, Array.length_toList, hsz]
    obtain ⟨us, pu, hS⟩ : ∃ us : List Str, us.Perm l ∧ StrsAre vs us := by
      have key : ∀ {a b : List Value}, a.Perm b → ∀ {ks : List Str}, StrsAre b ks → ∃ us, us.Perm ks ∧ StrsAre a us := by
        intro a b p
        induction p with
        | nil => exact fun h => ⟨_, List.Perm.refl _, h⟩
        | cons x p ih =>
          intro ks h
          cases h with
          | cons y t h =>
            obtain ⟨us, p1, p2⟩ := ih h
            exact ⟨y :: us, p1.cons y, .cons y t p2⟩
        | swap x y l =>
          intro ks h
          cases h with
          | cons x1 t1 h =>
            cases h with
            | cons x2 t2 h => exact ⟨_, List.Perm.swap _ _ _, .cons x2 t2 (.cons x1 t1 h)⟩
        | trans p q ih1 ih2 =>
          intro ks h
          obtain ⟨us, p1, p2⟩ := ih2 h
          obtain ⟨vs, q1, q2⟩ := ih1 p2
          exact ⟨vs, q1.trans p1, q2⟩
      obtain ⟨us, p1, p2⟩ := key pm hks
      exact ⟨us, p1.trans pk, p2⟩
    obtain ⟨hp, g1, d1, tk, o1⟩ := s1
    have eg : g1 = s.gens := hg
    have eo : o1 = s.os := ho
    subst eg eo
    have I1 : Inv X pins σ H { s with heap := hp, gens := s.gens, drawn := d1, toks := tk } := I.call (ch := []) (Un.kept hk) (I.hok.kept hk) I.bare (fun _ z => nomatch z)
    refine wpAny_bind (wpAny_newList ?_ (by rw [hvl, sizeLine_eq]; omega))
    have hoL : (hp.push (seqObj "list" vs.toArray 0)).get? hp.objs.size = some (seqObj "list" vs.toArray 0) := Heap.get?_push_size _ rfl
    refine wpAny_bind (wpAny_holding (wpAny_call_entry PyProof.Rows.slot_list_sort ⟨_, hoL, rfl⟩ PyProof.Rows.entry_list_sort (list_sort_treeK strKind_oneLt (s := { s with heap := hp.push (seqObj "list" vs.toArray 0), drawn := d1, toks := tk }) hoL hS.keysOf
      (fun v₁ v₂ rest e => keyKind_strs (by rw [← e]; exact hS)) (by rw [hvl]; exact h64) fun st' hpm hs => ⟨_, rfl, ?_⟩) (PyProof.Rows.args_list_sort _)))
    obtain ⟨zs, k1, k2, k3⟩ := sorted_out_str hS hpm hs
    obtain ⟨e', he'⟩ := PyProof.Rows.sortedHeap_at (vs := vs) (out := (arrOf st').map (·.2)) hoL
    have hlen : (zs.map V.str).length ≤ sizeLine := by
      rw [List.length_map, k2.length_eq, pu.length_eq, sizeLine_eq]
      omega
    refine wpAny_pure ⟨_, rfl, .ref hp.objs.size, upd H hp.objs.size (.lst (zs.map V.str)), I1.laid (t' := tk) (fun b u e => ?_) (Nat.le_refl _)
      (show ObjOk X.prog X.w _ _ _ (.lst (zs.map V.str)) from ⟨hlen, ((arrOf st').map (·.2)).toList, e', vals_of_strs k1, by rw [Array.toArray_toList]; exact he'⟩), rfl, q zs _ (k2.trans pu) k3 (I1.hok.fresh (Nat.le_refl _))⟩
    have hb : b < hp.objs.size := Heap.lt_size e
    rw [PyProof.Rows.sortedHeap_old (Nat.ne_of_lt hb) (by rw [size_push']; exact Nat.lt_succ_of_lt hb)]
    exact Heap.get?_push_of_some _ e
end
end Cl
/-! Own layer, part 8: signs in texts, join, pop, walks over a text, [::-1], sorted signs. -/
namespace Cl
open PySem PySem.Spec PyProof.Rows L2 He
section
variable {X : Cx}
/-- a sign in a text; a plain value in a list or tuple -/
def zIn (K : PySem.W.Frag) : R2 := fun x y H Q => match y with
  | .ref p => ∃ xs, (SqL K H p xs ∨ SqT K H p xs) ∧ flatV x = true ∧ xs.all flatV = true ∧ Q (.bl (inV x xs)) H
  | .str ⟨⟨z⟩⟩ => (match x with
    | .str ⟨⟨[c]⟩⟩ => Q (.bl (decide (c ∈ z))) H
    | _ => False)
  | _ => False
def zNotIn (K : PySem.W.Frag) : R2 := fun x y H Q => match y with
  | .ref p => ∃ xs, (SqL K H p xs ∨ SqT K H p xs) ∧ flatV x = true ∧ xs.all flatV = true ∧ Q (.bl (!inV x xs)) H
  | .str ⟨⟨z⟩⟩ => (match x with
    | .str ⟨⟨[c]⟩⟩ => Q (.bl (!decide (c ∈ z))) H
    | _ => False)
  | _ => False
theorem oz_notin (hu : X.A.units + 64 < cLine) : OpR X (compareOp .NotIn) (zNotIn X.K) := by
  intro pins s σ H x y v u Q I rx ry h
  match y, h with
  | .ref p, ⟨xs, h1, h2, h3, q⟩ => exact op_notIn_seq pins s σ H _ _ v u Q I rx ry ⟨p, xs, rfl, h1, h2, h3, q⟩
  | .str ⟨⟨z⟩⟩, h =>
    match x, h with
    | .str ⟨⟨[c]⟩⟩, h => exact op_notIn_sign pins s σ H _ _ v u Q I rx ry ⟨c, S z, rfl, rfl, h⟩
/-- the texts ys with a between them -/
def glue (a : List Nat) : List (List Nat) → List Nat
  | [] => []
  | [x] => x
  | x :: y :: r => x ++ (a ++ glue a (y :: r))
theorem join_txt (a : List Nat) (ys : List (List Nat)) : Txt.join (S a) (ys.map S) = S (glue a ys) := by
  have key : ∀ (r : List (List Nat)) (x : List Nat), StrLaws.glueT a ((x :: r).map S) = glue a (x :: r) := by
    intro r
    induction r with
    | nil =>
      intro x
      show x ++ [] = x
      rw [List.append_nil]
    | cons y r ih =>
      intro x
      show x ++ StrLaws.glueL a ((y :: r).map S) = x ++ (a ++ glue a (y :: r))
      rw [← ih y]
      rfl
  cases ys with
  | nil => rfl
  | cons x r =>
    have e := StrLaws.glued_list (S a) (S x) (r.map S)
    have k := key r x
    have z : Txt.join (S a) ((x :: r).map S) = ⟨(Txt.join (S a) ((x :: r).map S)).cps⟩ := rfl
    rw [z]
    congr 1
    apply Array.ext'
    exact e.trans k
theorem glue_nil : ∀ ys : List (List Nat), glue [] ys = ys.flatten
  | [] => rfl
  | [x] => by show x = x ++ []; rw [List.append_nil]
  | x :: y :: r => by
    show x ++ ([] ++ glue [] (y :: r)) = x ++ (y :: r).flatten
    rw [glue_nil (y :: r)]
    rfl
def zJoin (K : PySem.W.Frag) : V → List V → Hp → VK → Prop := fun x xs H Q => match x, xs with
  | .str ⟨⟨a⟩⟩, [.ref p] => ∃ ys : List (List Nat), (SqL K H p (ys.map sv) ∨ SqT K H p (ys.map sv)) ∧ (ys.map List.length).sum + ys.length * a.length ≤ 16777216 ∧ Q (sv (glue a ys)) H
  | _, _ => False
theorem mz_join : MtR X "str.join" (zJoin X.K) := by
  intro pins s σ H x xs v us Q I rx rv h
  match x, xs, h with
  | .str ⟨⟨a⟩⟩, [.ref p], ⟨ys, h1, h2, q⟩ =>
    refine mt_join pins s σ H _ _ v us Q I rx rv ⟨S a, p, ys.map S, rfl, rfl, ?_, ?_, ?_⟩
    · rw [List.map_map]
      exact h1
    · rw [List.map_map, List.length_map]
      exact h2
    · rw [join_txt]
      exact q
def zPop : V → List V → Hp → VK → Prop := fun x vs H Q => match x, vs with
  | .ref l, [.int i] => ∃ (xs : List V) (y : V), H l = some (.lst xs) ∧ 0 ≤ i ∧ i < xs.length ∧ xs.length ≤ sizeLine ∧ xs[i.toNat]? = some y ∧ Q y (upd H l (.lst (xs.eraseIdx i.toNat)))
  | _, _ => False
theorem mz_pop : MtR X "list.pop" zPop := by
  intro pins s σ H x vs v us Q I rx rv h
  match x, vs, h with
  | .ref l, [.int i], ⟨xs, y, h1, h2, h3, h5, h4, q⟩ =>
    have hz := sizeLine_eq
    obtain ⟨hs, _⟩ := ixN_seq (n := xs.length) (i := i) (j := i.toNat) (by unfold ixN; rw [if_pos h2, if_pos h3])
    exact mt_popAt pins s σ H _ _ v us Q I rx rv ⟨l, xs, i, i.toNat, y, rfl, rfl, h1, by omega, by omega, hs, h4, q⟩
/-! ### text[::-1] -/
def tRevT (te : TE) : TE := fun σ H Q => te σ H fun x H1 => ∃ z, x = sv z ∧ z.length ≤ sizeLine ∧ Q (sv z.reverse) H1
end
/-! ### sorted signs -/
/-- the codes in ascending order -/
def srt (z : List Nat) : List Nat := z.mergeSort (fun a b => decide (a ≤ b))
theorem srt_perm (z : List Nat) : (srt z).Perm z := List.mergeSort_perm _ _
theorem srt_le (z : List Nat) : (srt z).Pairwise (· ≤ ·) := by
  have h := List.pairwise_mergeSort (le := fun a b : Nat => decide (a ≤ b)) (fun a b c h1 h2 => by simp at *; omega) (fun a b => by simp; omega) z
  exact h.imp fun h => by simpa using h
theorem sorted_eq : ∀ {a b : List Nat}, a.Perm b → a.Pairwise (· ≤ ·) → b.Pairwise (· ≤ ·) → a = b
  | [], b, p, _, _ => (List.Perm.nil_eq p)
  | x :: a, [], p, _, _ => absurd p.length_eq (by simp)
  | x :: a, y :: b, p, ha, hb => by
    obtain ⟨h1, h2⟩ := List.pairwise_cons.mp ha
    obtain ⟨k1, k2⟩ := List.pairwise_cons.mp hb
    have e : x = y := by
      have m1 : x ∈ y :: b := p.mem_iff.mp List.mem_cons_self
      have m2 : y ∈ x :: a := p.mem_iff.mpr List.mem_cons_self
      rcases List.mem_cons.mp m1 with e | m1
      · exact e
      · rcases List.mem_cons.mp m2 with e | m2
        · exact e.symm
        · have := h1 y m2
          have := k1 x m1
          omega
    subst e
    rw [sorted_eq (List.Perm.cons_inv p) h2 k2]
theorem rising_pair : ∀ (zs : List Nat) (c : Nat), risingS (S [c]) (zs.map fun c => S [c]) = true → (c :: zs).Pairwise (· ≤ ·)
  | [], c, _ => List.pairwise_singleton _ _
  | d :: zs, c, h => by
    obtain ⟨h1, h2⟩ : (!ltCps [d] [c]) = true ∧ risingS (S [d]) (zs.map fun c => S [c]) = true := by
      have : (!ltCps [d] [c] && risingS (S [d]) (zs.map fun c => S [c])) = true := h
      simpa using this
    have ih := rising_pair zs d h2
    have hcd : c ≤ d := by
      have : ltCps [d] [c] = (decide (d < c) || (d == c && false)) := rfl
      rw [this] at h1
      simp at h1
      exact h1
    refine List.pairwise_cons.mpr ⟨fun x hx => ?_, ih⟩
    rcases List.mem_cons.mp hx with rfl | hx
    · exact hcd
    · exact Nat.le_trans hcd ((List.pairwise_cons.mp ih).1 x hx)
theorem map_sing_inv : ∀ {zs : List Str} {z : List Nat}, zs.Perm (z.map fun c => S [c]) → ∃ y : List Nat, zs = (y.map fun c => S [c]) ∧ y.Perm z := by
  intro zs z p
  have key : ∀ {a b : List Str}, a.Perm b → ∀ z : List Nat, b = (z.map fun c => S [c]) → ∃ y : List Nat, a = (y.map fun c => S [c]) ∧ y.Perm z := by
    intro a b p
    induction p with
    | nil => exact fun z e => ⟨z, e, List.Perm.refl _⟩
    | cons x p ih =>
      intro z e
      cases z with
      | nil => cases e
      | cons c z =>
        obtain ⟨e1, e2⟩ := List.cons.inj e
        obtain ⟨y, h1, h2⟩ := ih z e2
        exact ⟨c :: y, by rw [h1, e1]; rfl, h2.cons c⟩
    | swap x y l =>
      intro z e
      match z, e with
      | c :: d :: z, e =>
        obtain ⟨e1, e2⟩ := List.cons.inj e
        obtain ⟨e3, e4⟩ := List.cons.inj e2
        exact ⟨d :: c :: z, by rw [e1, e3, e4]; rfl, List.Perm.swap _ _ _⟩
    | trans p q ih1 ih2 =>
      intro z e
      obtain ⟨y, h1, h2⟩ := ih2 z e
      obtain ⟨x, k1, k2⟩ := ih1 y h1
      exact ⟨x, k1, k2.trans h2⟩
  exact key p z rfl
/-- what sorted gives of signs -/
theorem sorted_signs {zs : List Str} {z : List Nat} (p : zs.Perm (z.map fun c => S [c])) (h : sortedS zs = true) : zs.map V.str = sgs (srt z) := by
  obtain ⟨y, rfl, hy⟩ := map_sing_inv p
  have hs : y.Pairwise (· ≤ ·) := by
    cases y with
    | nil => exact List.Pairwise.nil
    | cons c y => exact rising_pair y c h
  have e : y = srt z := sorted_eq (hy.trans (srt_perm z).symm) hs (srt_le z)
  rw [e, ← sgs_eq]
theorem flat_sgs (z : List Nat) : (z.map fun c => [c]).flatten = z := by
  induction z with
  | nil => rfl
  | cons c z ih =>
    show [c] ++ (z.map fun c => [c]).flatten = c :: z
    rw [ih]
    rfl
end Cl
/-! Own layer, part 9: objects made in a try, errors asked in a suite, class constants. -/
namespace Cl
open PySem PySem.Spec PyProof.Rows L2 He
section
variable {X : Cx} {CX : CXT} {k : Nat} {f C : Addr} {fd : FuncData} {ps : List Str} {sp : Sp} {dvs : List V} {ds : List Value} {E : L2.St → XK} {x : Str} {p pos : Pos} {e : Expr} {es : List Expr} {t : TA}
/-- C(e, ..) where what its __init__ raises is wished for at the slots -/
def tMakeS (C : Addr) (sp : Sp) (dvs : List V) (E : L2.St → XK) (t : TA) : TE := fun σ H Q => t σ H fun vs H1 => ∀ x dx, H1 x = none → H1 dx = none → dx ≠ x →
  sp (.ref x :: (vs ++ dvs)) (upd (upd H1 dx (.own x)) x (.ins C dx [])) (fun v H2 => v = .non ∧ Q (.ref x) H2) (E σ)
theorem pe_makeS (M : Mk X.K C f) (F : FnOk X.prog X.w X.K X.mg X.base CX k f fd ps sp) (hr : Room (k + 1) X.A) (hg : Gl X x) (hm : X.mg x = some (.ref C)) (hb : Binds X.K fd ps ds) (hd : Vals dvs ds) (hx : ∀ σ, PassesAt CX X σ (E σ))
    (ha : PA X (e :: es) t) (hdb : (x == ("__debug__" : Str)) = false := by decide) (he : starEach (e :: es) X.env = (false, eval e X.env) :: starEach es X.env := by rfl) (hq : (backTo pos (starEach es X.env)).any (·.1) = false := by rfl) :
    PE X (.Call (.Name x p) (e :: es) [] pos) (tMakeS C sp dvs E t) := by
  constructor
  intro pins s σ H Q I h
  refine wpAny_Call_Name_kw (ld_glob I hg hm ?_ hdb)
  refine PySem.W.callWith_K (h₀ := X.base) I.ok.mod.kin M.kp (thn (ha.run pos pins s σ H _ I h) ?_) he hq
  rintro us s1 ⟨vs, H1, I1, r, q⟩
  refine ⟨I1.kIn, ?_⟩
  have hsp := q (s1.heap.objs.size + 1) s1.heap.objs.size (I1.hok.fresh (Nat.le_succ _)) (I1.hok.fresh (Nat.le_refl _)) (Nat.ne_of_lt (Nat.lt_succ_self _))
  have I2 := Inv.made (C := C) I1
  have r2 : Vals (V.ref (s1.heap.objs.size + 1) :: (vs ++ dvs)) (Value.ref (s1.heap.objs.size + 1) :: (us ++ ds)) := .cons rfl (r.append hd)
  have hl : (Value.ref (s1.heap.objs.size + 1) :: us ++ ds).length = ps.length := by
    have z := r2.length
    rw [F.len _ _ _ _ hsp] at z
    exact z.symm
  refine wpAny_call (make_map (f := f) I1.kIn M.makes M.init (beq_iff_eq.mp M.fn) ?_)
  refine codeAny_mono (F.run _ X.stack _ _ ⟨Value.ref (s1.heap.objs.size + 1) :: us, []⟩ (Value.ref (s1.heap.objs.size + 1) :: (us ++ ds)) _ _ (E σ) (hr.make C us []) (I2.env0.make C us []) (hb _ (Value.ref (s1.heap.objs.size + 1) :: us) I2.kIn hl) r2 hsp) ?_
  intro rr s' hq'
  cases rr with
  | error er => exact hx σ pins _ _ er s' I2 hq'
  | ok fl =>
    cases fl with
    | ret u =>
      obtain ⟨v, H', I3, rv, ev, q3⟩ := I2.after hq'
      subst ev
      exact ⟨rv, V.ref (s1.heap.objs.size + 1), H', I3, rfl, q3⟩
    | next => exact False.elim hq'
    | brk => exact False.elim hq'
    | cont => exact False.elim hq'
end
/-- isinstance(e, c) of the error that a suite holds, with its dict -/
def rIsW (K : PySem.W.Frag) (a : Addr) (cls : Value) (d : Option Addr) : List V → Hp → VK → Prop := fun xs H Q => ∃ (C dd : Addr) (fs : List (Str × V)) (c : V) (u : Value) (b : Bool), xs = [.ref a, c] ∧ cls = .ref C ∧ d = some dd ∧ H dd = some (.xd fs) ∧ XCls K C ∧ ClsV c u ∧ PySem.W.kitOne K (.ref C) u = some b ∧ Q (.bl b) H
theorem call_isW {X : Cx} {a : Addr} {oe : Obj} {cls : Value} {d : Option Addr} {pn : List (Addr × Obj)} (hz : Zc cls d oe) (hf : ∃ vs, oe.data = .fields vs) : CallR (X.suite a ((a, oe) :: pn)) (.builtin "isinstance") (rIsW X.K a cls d) := by
  intro pins s σ H xs us Q I r h
  obtain ⟨C, dd, fs, c, u, b, rfl, rfl, rfl, hd, T, k, hk, q⟩ := h
  obtain ⟨u1, u2, rfl, r1, r2⟩ := vals2 r
  obtain rfl := k.eq r2
  obtain rfl : u1 = Value.ref a := r1
  obtain ⟨ha, _⟩ := I.pin (a, oe) (List.mem_append_left _ List.mem_cons_self)
  obtain ⟨vs, hv⟩ := hf
  have hx : ObjOk X.prog X.w H s.heap dd (.xd fs) := I.hok dd _ hd
  obtain ⟨mA, hns, _⟩ := hx
  obtain ⟨od, ho, _⟩ := lookIn_ns hns
  have J : PySem.W.InstAt s.heap a oe C (some od) := ⟨ha, hz.1, by unfold PySem.W.notCls; rw [hv], by rw [hz.2]; exact ho⟩
  exact PySem.W.kia_one (PySem.W.kitx_exc T.cl T.f.ga T.f.gg T.f.exC T.kl T.sg T.tk T.mo) I.kIn J hk (fun z => nomatch z) fun tk => ⟨.bl b, H, I.tok tk, rfl, q⟩
end Cl
/-! Own layer, part 10: more facts by looks; raising. -/
namespace Cl
open PySem PySem.Spec PyProof.Rows L2 He ClX
def creadB (K : PySem.W.Frag) (C : Addr) : Bool := PySem.W.readsIn K C (.type "type") && decide (PySem.W.specialIn K (.ref C) "__getattribute__" = some (some (.builtin "type.__getattribute__")))
theorem creadB_ok {K : PySem.W.Frag} {C : Addr} (h : creadB K C = true) : CRead K C (.type "type") := ⟨(ba h).1, of_decide_eq_true (ba h).2⟩
def cvalB (K : PySem.W.Frag) (C : Addr) (f : Str) (v : V) : Bool := match PySem.W.findCls K (.ref C) (.type "type") f with
  | some (.val u) => relB v u
  | _ => false
theorem cvalB_ok {K : PySem.W.Frag} {C : Addr} {f : Str} {v : V} (h : cvalB K C f v = true) : ∃ u, CVal K C (.type "type") f v u := by
  unfold cvalB at h
  split at h
  · rename_i u e
    exact ⟨u, e, relB_ok h⟩
  · cases h
theorem mkr_ok {K : PySem.W.Frag} {x : Str} (h : (Fa.mkr x).ok K = true) : Mk K (ga K x) (fAd K (x, some "__init__")) := by
  obtain ⟨h1, h⟩ := ba h
  obtain ⟨h2, h⟩ := ba h
  obtain ⟨h3, h4⟩ := ba h
  exact ⟨h1, eqO_ok h2, h3, h4⟩
theorem cls_ok {K : PySem.W.Frag} {x : Str} (h : (Fa.cls x).ok K = true) : Cls K (ga K x) := by
  obtain ⟨h1, h⟩ := ba h
  obtain ⟨h2, h⟩ := ba h
  obtain ⟨h3, h4⟩ := ba h
  exact ⟨h1, h2, h3, eqO_ok h4⟩
/-- raise C(e, ..): what leaves the def is E's -/
def tRaiseE (E : XK) (C : Addr) (sp : Sp) (ta : TA) : TS := fun _ σ H => tMkO C sp [] ta σ H fun cls d H' => E cls d H'
/-- an error with one field, raised -/
theorem s_raise1 {E : XK} {C : Addr} {f : Str} {v : V} {D : Ends} {σ : L2.St} {H : Hp} (h : ∀ d, H d = none → E (.ref C) (some d) (upd H d (.xd [(f, v)]))) : tRaiseE E C (spX1 C f) (tCons (tC v) tNil) D σ H := by
  refine ⟨by show 1 ≤ 1000; decide, fun a ha => ⟨a, v, rfl, upd_same, fun d hd ne => ⟨rfl, d, _, upd_same, by rw [upd_ne ne, upd_same], (fresh_upd hd).1, ?_⟩⟩⟩
  obtain ⟨h1, _⟩ := fresh_upd hd
  have e : upd (del (upd (upd (upd H a (exo a C none)) d (exd d [(f, v)])) a (exo a C (some d))) a) d (.xd [(f, v)]) = upd H d (.xd [(f, v)]) := by
    funext b
    by_cases hb : b = d
    · rw [hb, upd_same, upd_same]
    · rw [upd_ne hb, upd_ne hb]
      by_cases hc : b = a
      · rw [hc, del_same, ha]
      · rw [del_ne hc, upd_ne hc, upd_ne hb, upd_ne hc]
  show E (.ref C) (some d) _
  rw [e]
  exact h d h1
/-- an error with one field v: the heap is as before but for its dict -/
def Err1 (C : Addr) (f : Str) (v : V) (H : Hp) (cls : Value) (d : Option Addr) (H' : Hp) : Prop := cls = .ref C ∧ ∃ dd, d = some dd ∧ H dd = none ∧ Same H H' ∧ H' dd = some (.xd [(f, v)])
end Cl
/-! Own layer, part 11: alphabets: what is said of them; comprehensions over texts. -/
namespace Cl
open PySem PySem.Spec PyProof.Rows L2 He ClX
abbrev small : List Nat := [97, 98, 99, 100, 101, 102, 103, 104, 105, 106, 107, 108, 109, 110, 111, 112, 113, 114, 115, 116, 117, 118, 119, 120, 121, 122]
def okL (ls : List Nat) : Prop := (∀ c ∈ ls, c ∈ small) ∧ 1 ≤ ls.length ∧ ls.length ≤ 8 ∧ ls.Nodup
def okV (ls vw : List Nat) : Prop := (∀ c ∈ vw, c ∈ ls) ∧ vw.Nodup
/-! ### the number of different signs -/
theorem sing_nodup {z : List Nat} : (z.map fun c => S [c]).Nodup ↔ z.Nodup := by
  constructor
  · intro h
    exact (List.pairwise_map.mp h).imp fun h e => h (by rw [e])
  · intro h
    exact List.pairwise_map.mpr (h.imp fun h e => h (by simpa using e))
theorem len_nodup {l : List Str} {z : List Nat} (nd : l.Nodup) (m : ∀ x, x ∈ l ↔ ∃ c ∈ z, x = S [c]) : l.length = z.length ↔ z.Nodup := by
  have s1 : ∀ x, x ∈ l → x ∈ z.map fun c => S [c] := fun x hx => by
    obtain ⟨c, hc, e⟩ := (m x).mp hx
    exact List.mem_map.mpr ⟨c, hc, e.symm⟩
  have s2 : ∀ x, x ∈ (z.map fun c => S [c]) → x ∈ l := fun x hx => by
    obtain ⟨c, hc, e⟩ := List.mem_map.mp hx
    exact (m x).mpr ⟨c, hc, e.symm⟩
  constructor
  · intro h
    have p := perm_of nd s1 (by rw [List.length_map]; omega)
    exact sing_nodup.mp (p.nodup_iff.mpr nd)
  · intro h
    have h1 := len_le_of nd s1
    have h2 := len_le_of (sing_nodup.mpr h) s2
    rw [List.length_map] at h1 h2
    omega
theorem len_nodup_b {l : List Str} {z : List Nat} (nd : l.Nodup) (m : ∀ x, x ∈ l ↔ ∃ c ∈ z, x = S [c]) : decide ((l.length : Int) = (z.length : Int)) = decide z.Nodup := by
  rw [Bool.eq_iff_iff, decide_eq_true_iff, decide_eq_true_iff, ← len_nodup nd m]
  omega
/-! ### heaps but for one -/
def But (D : Addr) (H H' : Hp) : Prop := ∀ a o, a ≠ D → H a = some o → H' a = some o
theorem But.refl (D : Addr) (H : Hp) : But D H H := fun _ _ _ e => e
theorem But.same {D : Addr} {H H' : Hp} (b : But D H H') (hD : H D = none) : Same H H' := fun a o e => b a o (ne_of_none e hD) e
theorem But.trans {D : Addr} {H H1 H2 : Hp} (a : But D H H1) (b : But D H1 H2) : But D H H2 := fun x o hx e => b x o hx (a x o hx e)
/-! ### [sign for sign in text if ..] -/
/-! ### joined signs -/
theorem srt_len (z : List Nat) : (srt z).length = z.length := (srt_perm z).length_eq
theorem mem_srt {z : List Nat} {c : Nat} : c ∈ srt z ↔ c ∈ z := (srt_perm z).mem_iff
theorem srt_lt {z : List Nat} (h : z.Nodup) : (srt z).Pairwise (· < ·) := by
  have h1 := srt_le z
  have h2 : (srt z).Pairwise (· ≠ ·) := (srt_perm z).nodup_iff.mpr h
  exact (h1.and h2).imp fun h => by omega
/-! ### an alphabet object -/
def aflds (l v c s : List Nat) : List (Str × V) := putF "signs" (sv s) (putF "consonants" (sv c) (putF "vowels" (sv v) (putF "letters" (sv l) [])))
def cons (l v : List Nat) : List Nat := l.filter fun c => !decide (c ∈ v)
/-- the alphabet of the letters ls and the vowels vw (in any order), at p -/
def Alph (K : PySem.W.Frag) (H : Hp) (p : Addr) (ls vw : List Nat) : Prop := ∃ dx, H p = some (.ins (ga K "Alphabet") dx (aflds (srt ls) (srt vw) (cons (srt ls) vw) (45 :: srt ls)))
end Cl
/-! Own layer, part 12: steps more; promises of the laws' common helpers and of Alphabet. -/
namespace Cl
open PySem PySem.Spec PyProof.Rows L2 He ClX
section
variable {K : PySem.W.Frag} {P : Program} {w : World} {H : Hp} {Q : VK} {QB : Bool → Hp → Prop} {σ : L2.St} {ta tb tc te tv : TE} {D : Ends} {f : Str} {c : Nat} {z : List Nat} {r r' : R2}
theorem s_in (h : Q (.bl (decide (c ∈ z))) H) : zIn K (sv [c]) (sv z) H Q := h
theorem s_notin (h : Q (.bl (!decide (c ∈ z))) H) : zNotIn K (sv [c]) (sv z) H Q := h
theorem s_chain (h : ta σ H fun x H1 => tb σ H1 fun y H2 => r x y H2 fun z H3 => ∃ k, z = .bl k ∧ (if k = true then tc σ H3 fun w' H4 => r' y w' H4 Q else Q (.bl false) H3)) : tChain r r' ta tb tc σ H Q := h
theorem s_sfld (h : tv σ H fun y H1 => ta σ H1 fun x H2 => ∃ a C dx fs, x = .ref a ∧ H2 a = some (.ins C dx fs) ∧ Cls K C ∧ NoAttr K C f ∧ fs.length < 1000 ∧ D.nx σ (upd H2 a (.ins C dx (putF f y fs)))) : sFld K ta tv f D σ H := h
theorem s_fld (h : te σ H fun x H1 => ∃ a C dx fs v, x = .ref a ∧ H1 a = some (.ins C dx fs) ∧ Cls K C ∧ NoAttr K C f ∧ fs.lookup f = some v ∧ Q v H1) : tFld K te f σ H Q := h
theorem s_cval (h : te σ H fun x H1 => ∃ C mc v u, x = .ref C ∧ CRead K C mc ∧ CVal K C mc f v u ∧ Q v H1) : tCVal K te f σ H Q := h
theorem s_truB {b : Bool} {QP : Bool → Prop} (q : QP b) : ∃ k, TruV K (.bl b) H k ∧ QP k := ⟨b, rfl, q⟩
theorem s_andV (h : ta σ H fun x H1 => ∃ c, x = .bl c ∧ if c = true then tb σ H1 Q else Q (.bl false) H1) : tAndV ta tb σ H Q := h
theorem s_orV (h : ta σ H fun x H1 => ∃ c, x = .bl c ∧ if c = true then Q (.bl true) H1 else tb σ H1 Q) : tOrV ta tb σ H Q := h
theorem s_notV (h : ta σ H fun x H1 => ∃ c, x = .bl c ∧ Q (.bl (!c)) H1) : tNotV ta σ H Q := h
theorem s_isnotNN (h : Q (.bl false) H) : zIsNot .non .non H Q := by
  show Q (.bl (!decide (V.non = V.non))) H
  rw [decide_eq_true rfl]
  exact h
theorem s_isNN (h : Q (.bl true) H) : zIs .non .non H Q := by
  show Q (.bl (decide (V.non = V.non))) H
  rw [decide_eq_true rfl]
  exact h
theorem s_isBB {a b : Bool} (h : Q (.bl (decide (a = b))) H) : zIs (.bl a) (.bl b) H Q := h
theorem s_isnotBB {a b : Bool} (h : Q (.bl (!decide (a = b))) H) : zIsNot (.bl a) (.bl b) H Q := h
theorem s_revT {te : TE} (h : te σ H fun x H1 => ∃ z, x = sv z ∧ z.length ≤ sizeLine ∧ Q (sv z.reverse) H1) : tRevT te σ H Q := h
end
theorem erase_map {α β : Type} (f : α → β) : ∀ (l : List α) (i : Nat), (l.map f).eraseIdx i = (l.eraseIdx i).map f
  | [], _ => by simp
  | x :: l, 0 => by simp
  | x :: l, i + 1 => by
    simp only [List.map_cons, List.eraseIdx_cons_succ]
    rw [erase_map f l i]
theorem s_makeS {C : Addr} {sp : Sp} {dvs : List V} {E : L2.St → XK} {t : TA} {σ : L2.St} {H : Hp} {Q : VK} (h : t σ H fun vs H1 => ∀ x dx, H1 x = none → H1 dx = none → dx ≠ x → sp (.ref x :: (vs ++ dvs)) (upd (upd H1 dx (.own x)) x (.ins C dx [])) (fun v H2 => v = .non ∧ Q (.ref x) H2) (E σ)) : tMakeS C sp dvs E t σ H Q := h
theorem s_make {C : Addr} {sp : Sp} {dvs : List V} {E : XK} {t : TA} {σ : L2.St} {H : Hp} {Q : VK} (h : t σ H fun vs H1 => ∀ x dx, H1 x = none → H1 dx = none → dx ≠ x → sp (.ref x :: (vs ++ dvs)) (upd (upd H1 dx (.own x)) x (.ins C dx [])) (fun v H2 => v = .non ∧ Q (.ref x) H2) E) : tMake C sp dvs E t σ H Q := h
theorem at_ofN {α : Type} {xs : List α} {z : Int} {j : Nat} {v : α} (e : z = (j : Int)) (h : xs[j]? = some v) : atI xs z = some v := by
  rw [e]
  exact atI_nat h
/-! ### slices by numbers -/
theorem cut_sub {α : Type} (z : List α) (lo hi : Option Int) : (cut z lo hi).Sublist z := (List.take_sublist _ _).trans (List.drop_sublist _ _)
theorem nd_of_lt {l : List Nat} (h : l.Pairwise (· < ·)) : l.Nodup := h.imp fun h => Nat.ne_of_lt h
/-! ### the promises -/
def sp_all_different (K : PySem.W.Frag) : Sp := fun vs H Q _ => ∃ z : List Nat, vs = [sv z] ∧ z.length ≤ 1000 ∧ ∀ H', Same H H' → Q (.bl (decide z.Nodup)) H'
abbrev txL : List Nat := [108, 101, 116, 116, 101, 114, 115]
abbrev txV : List Nat := [118, 111, 119, 101, 108, 115]
def sp_Alphabet_init (K : PySem.W.Frag) : Sp := fun vs H Q E => ∃ (p dx : Addr) (ls vw : List Nat), vs = [.ref p, sv ls, sv vw] ∧ H p = some (.ins (ga K "Alphabet") dx []) ∧ ls.length ≤ 60 ∧ vw.length ≤ 60 ∧
  (¬ okL ls → ∀ cls d H', Err1 (ga K "BadAlphabet") "part" (sv txL) H cls d H' → E cls d H') ∧
  (okL ls → ¬ okV ls vw → ∀ cls d H', Err1 (ga K "BadAlphabet") "part" (sv txV) H cls d H' → E cls d H') ∧
  (okL ls → okV ls vw → ∀ H', Alph K H' p ls vw → But p H H' → Q .non H')
def sp_l_letters (K : PySem.W.Frag) : Sp := fun vs H Q _ => ∃ (b : Addr) (top : Int), vs = [.ref b, .int top] ∧ Bag H b ∧ 1 ≤ top ∧ top ≤ 8 ∧
  ∀ ls H', ls.Pairwise (· < ·) → (∀ c ∈ ls, c ∈ small) → 1 ≤ ls.length → (ls.length : Int) ≤ top → Bst b H H' → Q (sv ls) H'
def sp_l_vowels (K : PySem.W.Frag) : Sp := fun vs H Q _ => ∃ (b : Addr) (ls : List Nat), vs = [.ref b, sv ls] ∧ Bag H b ∧ ls.length ≤ 26 ∧ ∀ vw H', vw.Sublist ls → Bst b H H' → Q (sv vw) H'
theorem len_all_different {K : PySem.W.Frag} (vs : List V) (H : Hp) (Q : VK) (E : XK) (h : sp_all_different K vs H Q E) : vs.length = 1 := by
  obtain ⟨a, rfl, _⟩ := h
  rfl
theorem len_Alphabet_init {K : PySem.W.Frag} (vs : List V) (H : Hp) (Q : VK) (E : XK) (h : sp_Alphabet_init K vs H Q E) : vs.length = 3 := by
  obtain ⟨p, dx, ls, vw, rfl, _⟩ := h
  rfl
theorem len_l_letters {K : PySem.W.Frag} (vs : List V) (H : Hp) (Q : VK) (E : XK) (h : sp_l_letters K vs H Q E) : vs.length = 2 := by
  obtain ⟨p, dx, rfl, _⟩ := h
  rfl
theorem len_l_vowels {K : PySem.W.Frag} (vs : List V) (H : Hp) (Q : VK) (E : XK) (h : sp_l_vowels K vs H Q E) : vs.length = 2 := by
  obtain ⟨p, dx, rfl, _⟩ := h
  rfl
end Cl
/-! Own layer, part 13: minus, bool(..), == by an own __eq__ with both answers, steps of methods, of dicts. -/
namespace Cl
open PySem PySem.Spec PyProof.Rows L2 He ClX
section
variable {X : Cx}
def zNeg : V → Hp → VK → Prop := fun x H Q => match x with
  | .int i => Q (.int (-i)) H
  | _ => False
theorem oz_neg : UnR X (unaryOp .USub) zNeg := by
  intro pins s σ H x v Q I rx h
  cases x with
  | int i => exact un_neg pins s σ H _ v Q I rx ⟨i, rfl, h⟩
  | _ => exact (show False from h).elim
def zBool (K : PySem.W.Frag) : List V → Hp → VK → Prop := fun xs H Q => match xs with
  | [.bl k] => Q (.bl k) H
  | _ => False
end
section
variable {K : PySem.W.Frag} {P : Program} {w : World} {H : Hp} {Q : VK} {σ : L2.St} {ta tb te td ty tx : TE} {t : TA} {D : Ends} {C : Addr} {f m : Str}
theorem s_neg {i : Int} (h : Q (.int (-i)) H) : zNeg (.int i) H Q := h
theorem s_un {r : V → Hp → VK → Prop} (h : ta σ H fun x H1 => r x H1 Q) : tUn r ta σ H Q := h
theorem s_bool {k : Bool} (h : Q (.bl k) H) : zBool K [.bl k] H Q := h
theorem s_meth {sp : Sp} {dvs : List V} {E : XK} (h : ta σ H fun x H1 => ∃ a dx fs, x = .ref a ∧ H1 a = some (.ins C dx fs) ∧ fs.lookup m = none ∧ t σ H1 fun vs H2 => sp (x :: (vs ++ dvs)) H2 Q E) : tMeth C m sp dvs E ta t σ H Q := h
theorem s_con (h : ta σ H fun x H1 => ∃ a C dx fs v u, x = .ref a ∧ H1 a = some (.ins C dx fs) ∧ Cls K C ∧ Con K C f v u ∧ fs.lookup f = none ∧ Q v H1) : tCon K ta f σ H Q := h
theorem s_disp {trs : List (TE × TE)} (h : ∀ p, H p = none → tPairs trs σ (upd H p (.dK [])) fun ps H2 => H2 p = some (.dK []) ∧ ∃ kvs : List (Key × V), ps = kvs.map (fun kv => (kV kv.1, kv.2)) ∧ kvs.length ≤ 15 ∧ Q (.ref p) (upd H2 p (.dK (mergeK [] kvs)))) : tDisp trs σ H Q := h
theorem s_pair {trs : List (TE × TE)} {QP : List (V × V) → Hp → Prop} (h : ta σ H fun x H1 => tb σ H1 fun y H2 => tPairs trs σ H2 fun ps H3 => QP ((x, y) :: ps) H3) : tPairs ((ta, tb) :: trs) σ H QP := h
theorem s_pnil {QP : List (V × V) → Hp → Prop} (h : QP [] H) : tPairs [] σ H QP := h
theorem s_dget2 (h : td σ H fun x H1 => ∃ a, x = .ref a ∧ IsD H1 a ∧ ty σ H1 fun y H2 => tx σ H2 fun z H3 => ∃ o, DGet H3 a y o ∧ Q (o.getD z) H3) : tDGet2 td ty tx σ H Q := h
end
/-! ### the fields of an alphabet that it has not -/
/-- conditions for isinstance(x, C) of instances, by a look -/
structure ICls (K : PySem.W.Frag) (C : Addr) : Prop where
  ha : PySem.W.findIn K (.ref C) "__class__" = some (some (.builtin "object.__class__"))
  hn : PySem.W.specialIn K (.builtin "object.__class__") "__get__" = some (some (.builtin "getset_descriptor.__get__"))
  htk : PySem.W.takesIn K (.builtin "object.__class__") = some true
  hm : PySem.W.mroIn K C (.type "object") = some true
def iclsB (K : PySem.W.Frag) (C : Addr) : Bool := decide (PySem.W.findIn K (.ref C) "__class__" = some (some (.builtin "object.__class__"))) && (decide (PySem.W.specialIn K (.builtin "object.__class__") "__get__" = some (some (.builtin "getset_descriptor.__get__"))) && (decide (PySem.W.takesIn K (.builtin "object.__class__") = some true) && decide (PySem.W.mroIn K C (.type "object") = some true)))
theorem iclsB_ok {K : PySem.W.Frag} {C : Addr} (h : iclsB K C = true) : ICls K C := by
  obtain ⟨h1, h⟩ := ba h
  obtain ⟨h2, h⟩ := ba h
  obtain ⟨h3, h4⟩ := ba h
  exact ⟨of_decide_eq_true h1, of_decide_eq_true h2, of_decide_eq_true h3, of_decide_eq_true h4⟩
theorem s_isiI {K : PySem.W.Frag} {a C dx : Addr} {fs : List (Str × V)} {c : V} {u : Value} {b : Bool} {H : Hp} {Q : VK} (e : H a = some (.ins C dx fs)) (cl : Cls K C) (i : ICls K C) (k : ClsV c u) (hk : PySem.W.kitOne K (.ref C) u = some b) (q : Q (.bl b) H) : zIsi K [.ref a, c] H Q :=
  Or.inr ⟨_, _, _, _, b, rfl, k, .base (.ins e cl i.ha i.hn i.htk i.hm), hk, q⟩
end Cl
/-! Own layer, part 14: sets of signs: what is said of their names; promises of Alphabet's methods and of the laws' helpers. -/
namespace Cl
open PySem PySem.Spec PyProof.Rows L2 He ClX
/-- the alphabet with the letters ls and the vowels vw, both ascending, at p -/
def Al (K : PySem.W.Frag) (H : Hp) (p : Addr) (ls vw : List Nat) : Prop := ∃ dx, H p = some (.ins (ga K "Alphabet") dx (aflds ls vw (cons ls vw) (45 :: ls)))
theorem Al.same {K : PySem.W.Frag} {H H' : Hp} {p : Addr} {ls vw : List Nat} (a : Al K H p ls vw) (s : Same H H') : Al K H' p ls vw := let ⟨dx, e⟩ := a; ⟨dx, s _ _ e⟩
theorem srt_eq {l m : List Nat} (p : l.Perm m) (h : m.Pairwise (· < ·)) : srt l = m :=
  List.Perm.eq_of_pairwise (fun a b _ _ h1 h2 => Nat.le_antisymm h1 h2) (srt_le l) (h.imp fun h => Nat.le_of_lt h) ((srt_perm l).trans p)
abbrev txA : List Nat := [97, 108, 108]
abbrev txC : List Nat := [99, 111, 110, 115, 111, 110, 97, 110, 116, 115]
abbrev txJ : List Nat := [106, 111, 105, 110, 116, 115]
def inner (z : List Nat) : List Nat := cut z (some 1) (some (-1))
def isW (ls z : List Nat) : Bool := z.all fun c => decide (c ∈ 45 :: ls)
/-- a listed set -/
def okS (ls z : List Nat) : Prop := 3 ≤ z.length ∧ atI z 0 = some 91 ∧ atI z (-1) = some 93 ∧ isW ls (inner z) = true ∧ (inner z).Pairwise (· < ·)
/-- a set's name -/
def okN (ls z : List Nat) : Prop := z = txA ∨ z = txL ∨ z = txV ∨ z = txC ∨ z = txJ ∨ okS ls z
/-- its members -/
def mem (ls vw z : List Nat) : List Nat := if z = txA then 45 :: ls else if z = txL then ls else if z = txV then vw else if z = txC then cons ls vw else if z = txJ then [45] else inner z
def sp_Alphabet_is_word (K : PySem.W.Frag) : Sp := fun vs H Q _ => ∃ (a : Addr) (ls vw z : List Nat), vs = [.ref a, sv z] ∧ Al K H a ls vw ∧ z.length ≤ 1000 ∧ Q (.bl (isW ls z)) H
def sp_l_word (K : PySem.W.Frag) : Sp := fun vs H Q _ => ∃ (b : Addr) (sg : List Nat) (top : Nat), vs = [.ref b, sv sg, .int top] ∧ Bag H b ∧ 1 ≤ sg.length ∧ sg.length ≤ 60 ∧ top ≤ 60 ∧ ∀ z H', (∀ c ∈ z, c ∈ sg) → z.length ≤ top → Bst b H H' → Q (sv z) H'
section
variable {K : PySem.W.Frag} (vs : List V) (H : Hp) (Q : VK) (E : XK)
theorem len_Alphabet_is_word (h : sp_Alphabet_is_word K vs H Q E) : vs.length = 2 := by obtain ⟨_, _, _, _, rfl, _⟩ := h; rfl
theorem len_l_word (h : sp_l_word K vs H Q E) : vs.length = 3 := by obtain ⟨_, _, _, rfl, _⟩ := h; rfl
end
end Cl
/-! Own layer, part 15: defs that say super(). -/
namespace Cl
open PySem PySem.Spec PyProof.Rows L2 He ClX
structure FnScopeS (N P : List Str) (sc : Scope) : Prop where
  kind : sc.kind = .function
  co : sc.isCoroutine = false
  gen : sc.isGenerator = false
  nd : N.Nodup
  pre : N.take P.length = P
  par : ∀ x ∈ P, sc.names.lookup x = some .local
  nocell : ∀ y ∈ sc.names, y.2 ≠ .cell
  free : ∀ y ∈ sc.names, y.2 = .free → y.1 = "__class__"
/-- the context of such a def's body; the class cell at cc -/
def cxS (CX : CXT) (P : Program) (w : World) (K : PySem.W.Frag) (mg : Str → Option Value) (base : Heap) (N : List Str) (qual : Str) (scope : Scope) (f : Addr) (cd : Value) (cc : Addr) (A : Around) (outer : List Env) (s : Shared) (H : Hp) (E : XK) : Cx where
  prog := P
  w := w
  K := K
  mg := mg
  base := base
  A := A.deeper (PySem.W.ksEnv qual scope s.heap.objs.size f cd cc)
  N := N
  s_0 := s
  H_0 := H
  env := PySem.W.ksEnv qual scope s.heap.objs.size f cd cc
  outer := outer
  stack := PySem.W.ksEnv qual scope s.heap.objs.size f cd cc :: outer
  ex := []
  calm := true
  fn := fun y => !decide (y = ("__class__" : Str))
  pn := []
  xe := fun e s' => wpAny (model P w) (A.deeper (PySem.W.ksEnv qual scope s.heap.objs.size f cd cc)) (leaving (PySem.W.ksEnv qual scope s.heap.objs.size f cd cc) e) (fun _ s'' => CX outer H s E e s'') (fun e' s'' => CX outer H s E e' s'') s'
theorem look_app {k : Str} : ∀ {l r : List (Str × Value)}, (l ++ r).lookup k = match l.lookup k with | some v => some v | none => r.lookup k
  | [], r => rfl
  | (a, v) :: l, r => by
    rw [List.cons_append, List.lookup_cons, List.lookup_cons]
    cases h : (k == a) with
    | true => rfl
    | false => exact look_app (l := l)
theorem look_none {k : Str} : ∀ {l : List (Str × Value)}, (∀ v, (k, v) ∉ l) → l.lookup k = none
  | [], _ => rfl
  | (a, v) :: l, h => by
    rw [List.lookup_cons]
    cases q : (k == a) with
    | true => exact absurd (by rw [eq_of_beq q]; exact List.mem_cons_self) (h v)
    | false => exact look_none fun u hu => h u (List.mem_cons_of_mem _ hu)
theorem rev_get {x : Str} {u : Value} : ∀ {P : List Str} {us : List Value} {i : Nat}, P.Nodup → P[i]? = some x → us[i]? = some u → (P.zip us).reverse.lookup x = some u
  | [], _, _, _, h, _ => by simp at h
  | _ :: _, [], _, _, _, h => by simp at h
  | p :: P, v :: us, 0, nd, h1, h2 => by
    simp at h1 h2
    subst h1
    subst h2
    rw [List.zip_cons_cons, List.reverse_cons, look_app, look_none fun w hw => (List.nodup_cons.mp nd).1 (List.of_mem_zip (List.mem_reverse.mp hw)).1]
    rw [List.lookup_cons, beq_self_eq_true]
  | p :: P, v :: us, i + 1, nd, h1, h2 => by
    rw [List.zip_cons_cons, List.reverse_cons, look_app, rev_get (i := i) (List.nodup_cons.mp nd).2 (by simpa using h1) (by simpa using h2)]
theorem cell_one {cc c : Addr} {y : Str} (h : ([(("__class__" : Str), cc)]).lookup y = some c) : y = "__class__" ∧ c = cc := by
  rw [List.lookup_cons] at h
  cases q : (y == ("__class__" : Str)) with
  | true =>
    rw [q] at h
    exact ⟨eq_of_beq q, (Option.some.inj h).symm⟩
  | false =>
    rw [q] at h
    cases h
section
variable {CX : CXT} {P : Program} {w : World} {K : PySem.W.Frag} {mg : Str → Option Value} {base : Heap} {N ps : List Str} {qual : Str} {scope : Scope} {f cc : Addr} {cd : Value} {A : Around} {outer : List Env} {s : Shared} {H : Hp} {E : XK} {us : List Value} {vs : List V}
theorem inv_startS {h1 : Heap} {tk : Nat} {ocl : Obj} {dv : Option Value}
    (S : FnScopeS N ps scope) (hd : A.handled = none) (e0 : Env0 P w K mg base A outer s H) (hl : vs.length = ps.length) (r : Vals vs us) (hcc : K.lookup cc = some ocl) (hcd : ocl.data = .cell dv)
    (hns : h1.Ns s.heap.objs.size (fun x => (ps.zip us).reverse.lookup x)) (hk : ∀ b o, s.heap.get? b = some o → h1.get? b = some o) :
    Inv (cxS CX P w K mg base N qual scope f cd cc A outer s H E) [] (start N vs) H { s with heap := h1, toks := tk } := by
  have hpl : ps.length ≤ N.length := by have := congrArg List.length S.pre; rw [List.length_take] at this; omega
  have noA : ∀ b : Addr, b ∉ (cxS CX P w K mg base N qual scope f cd cc A outer s H E).ex := fun b z => absurd (show b ∈ ([] : List Addr) from z) (by simp)
  have hb := e0.bs _ _ (e0.mod.kin _ _ hcc)
  refine ⟨⟨e0.mod, S.kind, rfl, rfl, Nat.le_refl _, fun y z c h1 h2 => ?_, fun y hy => ?_, fun y c hf h => ?_, fun _ => hd, Around.frames_deeper e0.frames, .inr ⟨rfl, rfl⟩, fun b z => absurd z (noA b), e0.bs, e0.bsz, fun b _ _ => noA b, fun b z => absurd z (noA b), e0.funs, e0.frf⟩,
    rfl, e0.bare, Un.kept hk, ⟨_, hns, fun i y v h1 h2 h3 => ?_⟩, fun y c h => ?_, e0.hok.fresh (Nat.le_refl _), fun y c h => ?_, fun p hp => absurd (show p ∈ ([] : List (Addr × Obj)) from hp) (by simp), e0.hok.kept hk, ?_⟩
  · exact (cell_one h1).1.trans (cell_one h2).1.symm
  · have hy : scope.names.lookup y = some .cell ∨ scope.names.lookup y = some .free := hy
    rcases hy with hy | hy
    · exact absurd rfl (S.nocell _ (PySem.mem_of_lookup hy))
    · have := S.free _ (PySem.mem_of_lookup hy) rfl
      dsimp only at this
      subst this
      exact ⟨cc, by show List.lookup _ [_] = _; rw [List.lookup_cons, beq_self_eq_true]⟩
  · have := (cell_one h).1
    subst this
    exact absurd hf (by show ¬ ((!decide (("__class__" : Str) = "__class__")) = true); rw [decide_eq_true rfl]; decide)
  · have hi : i < vs.length := by
      unfold L2.start at h2
      by_cases hi : i < vs.length
      · exact hi
      · rw [List.getElem?_append_right (by simpa using hi)] at h2
        rw [List.getElem?_replicate] at h2
        split at h2 <;> cases h2
    have ha : vs[i]? = some v := by
      unfold L2.start at h2
      rw [List.getElem?_append_left (by simpa using hi), List.getElem?_map] at h2
      cases e : vs[i]? with
      | none => rw [e] at h2; cases h2
      | some a => rw [e] at h2; cases h2; rfl
    obtain ⟨u, hu, rv⟩ := r.get ha
    have hp : ps[i]? = some y := by
      rw [← S.pre, List.getElem?_take_of_lt (by omega)]; exact h1
    have ndP : ps.Nodup := by rw [← S.pre]; exact S.nd.sublist (List.take_sublist _ _)
    exact ⟨u, rv, .inl ⟨S.par y (List.mem_of_getElem? hp), rev_get ndP hp hu⟩⟩
  · obtain ⟨_, rfl⟩ := cell_one h
    exact ⟨dv, _, hk _ _ hb.1, hcd⟩
  · obtain ⟨_, rfl⟩ := cell_one h
    exact hb.2
  · unfold L2.start
    show _ = N.length
    rw [List.length_append, List.length_map, List.length_replicate]
    omega
end
/-! ### what is run by the very code of the def -/
structure PSsa (X : Cx) (b : List Stmt) (st : List Stmt) (t : TS) : Prop where
  run : ∀ (pins : List (Addr × Obj)) (s : Shared) (σ : L2.St) (H : Hp) (D : Ends), Inv X pins σ H s → t D σ H → PySem.wpAt (model X.prog X.w) X.A (.func b X.env) (execs st X.env) (SP X pins D) X.xe s
/-! ### THE RULE for a def that says super() -/
theorem fn_ofS {CX : CXT} {P : Program} {w : World} {K : PySem.W.Frag} {mg : Str → Option Value} {base : Heap} {k : Nat} {f cc : Addr} {name qual : Str} {params : Arguments} {body : List Stmt} {scope : Scope} {dV kV doc pm cdv ct oc : Value} {an od : Option Addr}
    {osl : Array (Option Value)} {N ps : List Str} {sp : Sp} {ocl : Obj} {dv : Option Value} (lk : K.lookup f = some ⟨oc, od, .func (PySem.W.ksFn name qual params body scope dV kV doc pm an cdv ct cc), osl⟩) (hcd : PySem.W.codeIn K cdv qual = true) (hcc : K.lookup cc = some ocl) (hcv : ocl.data = .cell dv)
    (S : FnScopeS N ps scope) (len : ∀ vs H Q E, sp vs H Q E → vs.length = ps.length)
    (hbody : ∀ (A : Around) (outer : List Env) (s : Shared) (H : Hp) (vs : List V) (Q : VK) (E : XK), Room k (A.deeper (PySem.W.ksEnv qual scope s.heap.objs.size f cdv cc)) → sp vs H Q E →
      ∃ t, PSsa (cxS CX P w K mg base N qual scope f cdv cc A outer s H E) body body t ∧ t { nx := fun _ H' => Q .non H', rt := Q } (start N vs) H) :
    FnOk P w K mg base CX (k + 1) f (PySem.W.ksFn name qual params body scope dV kV doc pm an cdv ct cc) ps sp := by
  refine ⟨len, fun A outer s H args us vs Q E hr e0 hb r hsp => ?_⟩
  have hl := len _ _ _ _ hsp
  have KX : K.In s.heap := e0.mod.kin.keeps fun b o e => (e0.bs b o e).1
  have lim : s.heap.NoLimit := e0.mod.nolimit.keeps fun b o e => (e0.bs b o e).1
  refine PySem.ks_codeAny_call_defAt (fd := PySem.W.ksFn name qual params body scope dV kV doc pm an cdv ct cc) hr.depth (KX _ _ lk) rfl lim (PySem.W.codeRec_of KX hcd) rfl hb S.nocell (fun y hy => S.par y.1 (List.of_mem_zip hy).1) (fun h1 hns hk => ?_) S.co S.gen S.kind
  obtain ⟨t, ht, hq⟩ := hbody A outer s H vs Q E (hr.deeper _) hsp
  have I : Inv (cxS CX P w K mg base N qual scope f cdv cc A outer s H E) [] (start N vs) H { s with heap := h1, toks := s.toks + (ps.zip us).length } := inv_startS S hr.hd e0 hl r hcc hcv hns hk
  refine PySem.ks_wpAt_mono (ht.run [] _ (start N vs) H _ I hq) (fun fl s' hs => ?_) fun e s' hs => hs
  have fin : ∀ {σ' : L2.St} {H' : Hp} {v : V} {u : Value}, Inv (cxS CX P w K mg base N qual scope f cdv cc A outer s H E) [] σ' H' s' → RelV v u → Q v H' → CE outer P w H s Q u s' :=
    fun {σ' H' v u} J rv q => ⟨v, H', J.os, J.bare, J.base, J.hok, rv, q⟩
  cases fl with
  | ret u =>
    obtain ⟨v, σ', H', J, rv, q⟩ := hs
    exact fin J rv q
  | next =>
    obtain ⟨σ', H', J, q⟩ := hs
    exact fin (v := V.non) (u := Value.none) J rfl q
  | brk =>
    obtain ⟨_, _, _, q⟩ := hs
    exact False.elim q
  | cont =>
    obtain ⟨_, _, _, q⟩ := hs
    exact False.elim q
/-! ### super().m(..) -/
/-- what of the written part is asked -/
structure SupD (K : PySem.W.Frag) (prog : Program) (f cc D : Addr) (cdv : Value) : Prop where
  fn : ∃ oc od fd osl ar, K.lookup f = some ⟨oc, od, .func fd, osl⟩ ∧ (fd.params.posonlyargs ++ fd.params.args).head? = some ar ∧ ar.arg = "self"
  code : ∃ cda ccl cdd vs ccs file tf, cdv = .ref cda ∧ K.lookup cda = some ⟨ccl, cdd, .fields vs, ccs⟩ ∧ vs[2]? = some (.str file tf) ∧ ((prog.main.file : Str) == file) = true
  cell : ∃ cl cld csl, K.lookup cc = some ⟨cl, cld, .cell (some (.ref D)), csl⟩
  cls : (PySem.W.clsIn K D).isSome = true
  no : PySem.W.nsIn K PySem.cStatics "thirdparty.any" = some none
  top : (prog.main.scope.names.lookup ("super" : Str)).isSome = false
end Cl
/-! Own layer, part 16: the head's facts of defs that say super(). -/
namespace Cl
open PySem PySem.Spec PyProof.Rows L2 He ClX
abbrev FnS : Type := Option (Str × Str × Arguments × FuncBody × Scope × Addr × List Str × Addr)
def fnS (K : PySem.W.Frag) (p : Str × Option Str) : FnS := match K.lookup (fAd K p) with
  | some ⟨_, _, .func fd, _⟩ => some (fd.name, fd.qualname, fd.params, fd.body, fd.scope, fd.globals, fd.closure.map (·.1), fd.builtins)
  | _ => none
def valS (d : DefD) : FnS := some (d.name, d.qual, d.params, .stmts d.body, d.scope, mainGlobals, ["__class__"], builtinsNs)
structure FunS (P : Program) (K : PySem.W.Frag) (x qual : Str) (params : Arguments) (body : List Stmt) (scope : Scope) (dvs : List V) (kws : List (Str × V)) (f : Addr) (fd : FuncData) (D : Addr) : Prop where
  ex : ∃ (oc : Value) (od : Option Addr) (dV kV doc pm : Value) (an : Option Addr) (cdv ct : Value) (osl : Array (Option Value)) (cc : Addr),
    fd = PySem.W.ksFn x qual params body scope dV kV doc pm an cdv ct cc ∧ K.lookup f = some ⟨oc, od, .func fd, osl⟩ ∧ PySem.W.codeIn K cdv qual = true ∧ DflV K dV dvs ∧ KwdV K kV kws ∧ SupD K P f cc D cdv
  kp : PySem.W.keepIn K (.ref f) = true
section
variable {P : Program} {w : World} {K : PySem.W.Frag} {mg : Str → Option Value} {base : Heap} {x qual : Str} {params : Arguments} {body : List Stmt} {scope : Scope} {dvs : List V} {kws : List (Str × V)} {f D : Addr} {fd : FuncData}
theorem FunS.ok {CX : CXT} {N ps : List Str} {k : Nat} {sp : Sp} (F : FunS P K x qual params body scope dvs kws f fd D) (S : FnScopeS N ps scope) (len : ∀ vs H Q E, sp vs H Q E → vs.length = ps.length)
    (hbody : ∀ (cdv : Value) (cc : Addr) (A : Around) (outer : List Env) (s : Shared) (H : Hp) (vs : List V) (Q : VK) (E : XK), SupD K P f cc D cdv → Room k (A.deeper (PySem.W.ksEnv qual scope s.heap.objs.size f cdv cc)) → sp vs H Q E →
      ∃ t, PSsa (cxS CX P w K mg base N qual scope f cdv cc A outer s H E) body body t ∧ t { nx := fun _ H' => Q .non H', rt := Q } (L2.start N vs) H) : FnOk P w K mg base CX (k + 1) f fd ps sp := by
  obtain ⟨oc, od, dV, kV, doc, pm, an, cdv, ct, osl, cc, rfl, lk, hcd, _, _, d⟩ := F.ex
  obtain ⟨cl, cld, csl, hcc⟩ := d.cell
  exact fn_ofS lk hcd hcc rfl S len fun A outer s H vs Q E hr hsp => hbody cdv cc A outer s H vs Q E d hr hsp
theorem FunS.bindsN {ps : List Str} (F : FunS P K x qual params body scope [] kws f fd D)
    (h : ∀ (kV doc pm : Value) (an : Option Addr) (cdv ct : Value) (cc : Addr) (us : List Value), us.length = ps.length → bindArgs (PySem.W.ksFn x qual params body scope .none kV doc pm an cdv ct cc) ⟨us, []⟩ = pure (ps.zip us)) : Binds K fd ps [] := by
  obtain ⟨oc, od, dV, kV, doc, pm, an, cdv, ct, osl, cc, rfl, lk, hcd, hD, hK, d⟩ := F.ex
  rcases hD with ⟨_, rfl⟩ | ⟨e, _⟩
  · exact .all (h kV doc pm an cdv ct cc)
  · exact absurd rfl e
end
/-! ### the hook with such defs -/
noncomputable def obsS (n : Nat) (fa : List Fa) (fn fs : List DefD) (ts : List Tab) (ex : PySem.W.Frag → Bool) (g : Addr → Option Obj) : (AlT × Bool) × List FnS := (obsC n fa fn ts ex g, fs.map fun d => fnS (frG g (asC g n)) d.at_)
structure SaysS (fa : List Fa) (fn fs : List DefD) (ts : List Tab) (ex : PySem.W.Frag → Bool) (w : World) (K : PySem.W.Frag) : Prop where
  c : SaysC fa fn ts ex w K
  s : (fs.map fun d => fnS K d.at_) = fs.map valS
noncomputable def hookS (n : Nat) (fa : List Fa) (fn fs : List DefD) (ts : List Tab) (ex : PySem.W.Frag → Bool) : PySem.W.Hook where
  α := (AlT × Bool) × List FnS
  obs := fun s => obsS n fa fn fs ts ex s.heap.get?
  val := fun w => ((valT fn ts w, true), fs.map valS)
  says := fun w h => ∃ K : PySem.W.Frag, K.In h ∧ SaysS fa fn fs ts ex w K
  of := fun _ _ e => ⟨_, frG_in, ⟨⟨congrArg (fun z : (AlT × Bool) × List FnS => z.1.1) e, congrArg (fun z : (AlT × Bool) × List FnS => z.1.2) e⟩, congrArg (fun z : (AlT × Bool) × List FnS => z.2) e⟩⟩
  keeps := fun _ _ _ ⟨K, hK, c⟩ k => ⟨K, PySem.W.Frag.In.keeps hK k, c⟩
theorem obsS_eq {n : Nat} {fa : List Fa} {fn fs : List DefD} {ts : List Tab} {ex : PySem.W.Frag → Bool} {g : Addr → Option Obj} {s : Shared} (h : ∀ a, g a = s.heap.get? a) : obsS n fa fn fs ts ex g = (hookS n fa fn fs ts ex).obs s := by
  have e : g = s.heap.get? := funext h
  subst e
  rfl
theorem SaysS.at_ {fa : List Fa} {fn fs : List DefD} {ts : List Tab} {ex : PySem.W.Frag → Bool} {w : World} {K : PySem.W.Frag} (c : SaysS fa fn fs ts ex w K) (i : Nat) {d : DefD} (h : fs[i]? = some d) : fnS K d.at_ = valS d := by
  have e : (fs.map fun d => fnS K d.at_)[i]? = (fs.map valS)[i]? := by rw [c.s]
  rw [List.getElem?_map, List.getElem?_map, h] at e
  exact Option.some.inj e
end Cl
/-! Own layer, part 17: what the laws on alphabets and stages share. -/
namespace Cl
open PySem PySem.Spec PyProof.Rows L2 He ClX
open C8 (tCut pss_cut)
variable {K : PySem.W.Frag} {mg : Str → Option Value} {P : Program} {w : World}
local macro_rules | `(tactic| walk_at "zs") => `(tactic| repeat (first
  | with_reducible refine s_seq ?_
  | with_reducible refine s_asg ?_
  | with_reducible refine s_if ?_
  | with_reducible refine s_var (by with_unfolding_all exact rfl) ?_
  | with_reducible refine s_c ?_
  | with_reducible refine s_op ?_
  | with_reducible refine s_cons ?_
  | with_reducible refine s_nil ?_
  | with_reducible refine s_cb ?_
  | with_reducible refine s_call ?_
  | with_reducible refine s_ret ?_
  | with_reducible refine s_test ?_
  | with_reducible refine s_bl ?_
  | with_reducible refine s_not ?_
  | with_reducible refine s_name ?_
  | with_reducible refine s_sub ?_
  | with_reducible refine s_sl ?_
  | with_reducible refine s_part ?_
  | with_reducible refine s_nopart ?_
  | with_reducible refine s_int ?_
  | with_reducible refine s_drop ?_
  | with_reducible refine s_lst ?_
  | with_reducible refine s_tup ?_
  | with_reducible refine s_bm ?_
  | with_reducible refine s_next ?_
  | with_reducible refine s_xfv ?_
  | with_reducible refine s_tru ?_
  | with_reducible refine s_yes ?_
  | with_reducible refine s_isnotNN ?_
  | with_reducible refine s_isNN ?_
  | with_reducible refine s_isBB ?_
  | with_reducible refine s_isnotBB ?_
  | with_reducible refine s_makeS ?_
  | with_reducible refine s_make ?_
  | with_reducible refine s_in ?_
  | with_reducible refine s_notin ?_
  | with_reducible refine s_chain ?_
  | with_reducible refine s_sfld ?_
  | with_reducible refine s_fld ?_
  | with_reducible refine s_cval ?_
  | with_reducible refine s_andV ?_
  | with_reducible refine s_orV ?_
  | with_reducible refine s_notV ?_
  | with_reducible refine s_truB ?_
  | with_reducible refine s_revT ?_
  | with_reducible refine iteT ?_
  | with_reducible refine iteF ?_
  | with_reducible refine s_or ?_
  | with_reducible refine s_and ?_
  | with_reducible refine s_addI ?_
  | with_reducible refine s_subI ?_
  | with_reducible refine s_ltI ?_
  | with_reducible refine s_leI ?_
  | with_reducible refine s_gtI ?_
  | with_reducible refine s_geI ?_
  | with_reducible refine s_intc ?_
  | with_reducible refine s_eq (by with_unfolding_all exact rfl) ?_
  | with_reducible refine s_ne (by with_unfolding_all exact rfl) ?_
  | with_reducible refine s_ife ?_
  | with_reducible refine s_un ?_
  | with_reducible refine s_neg ?_
  | with_reducible refine s_bool ?_
  | with_reducible refine s_meth ?_
  | with_reducible refine s_con ?_
  | with_reducible refine s_disp ?_
  | with_reducible refine s_pair ?_
  | with_reducible refine s_pnil ?_
  | with_reducible refine s_dget2 ?_))
/-! ### sorted(set(text)) -/
theorem isW_iff {ls z : List Nat} : isW ls z = true ↔ ∀ c ∈ z, c ∈ 45 :: ls := by
  unfold isW
  simp only [List.all_eq_true, decide_eq_true_eq]
theorem atI_some {z : List Nat} {i : Int} (h : -(z.length : Int) ≤ i) (h2 : i < z.length) : ∃ c, atI z i = some c := by
  unfold atI ixN
  by_cases h0 : 0 ≤ i
  · rw [if_pos h0, if_pos h2]
    exact ⟨_, List.getElem?_eq_getElem (by omega)⟩
  · rw [if_neg h0, if_pos (by omega)]
    exact ⟨_, List.getElem?_eq_getElem (by omega)⟩
theorem cons_len (ls vw : List Nat) : (cons ls vw).length ≤ ls.length := List.length_filter_le _ _
end Cl
/-! Own layer, part 18: instances called; a choice between readings. -/
namespace Cl
open PySem PySem.Spec PyProof.Rows L2 He ClX
open StX (CallO callO_with)
/-- a method that stands in a class above -/
def methB (K : PySem.W.Frag) (C : Addr) (m : Str) (f : Addr) : Bool := eqO (PySem.W.findIn K (.ref C) m) (some (some (.ref f))) && (PySem.W.isFn K (.ref f) && PySem.W.keepIn K (.ref f))
theorem methB_ok {K : PySem.W.Frag} {C f : Addr} {m : Str} (h : methB K C m f = true) : Meth K C m f := by
  obtain ⟨h1, h⟩ := ba h
  obtain ⟨h2, h3⟩ := ba h
  exact ⟨eqO_ok h1, h2, h3⟩
end Cl
/-! Own layer: super() with keywords, in a tuple, unpacked; defaults of defs that say super(). -/
/-! Own layer: some keywords, in any order; making with keywords within a try. -/
/-! Own layer: split, `in` of nested data, a dict of the module with text keys and int values. -/
/-! Own layer: star parameters, objects made by star calls, class methods, own operators. -/
/-! Own layer: class methods in the head's facts. -/
namespace Cl
open PySem PySem.Spec PyProof.Rows L2 He ClX
/-- where the def of the classmethod stands -/
def cmAd (K : PySem.W.Frag) (p : Str × Option Str) : Addr := He5.wf K (ga K p.1) "classmethod" (p.2.getD "")
def valM (d : DefD) : He5.FnW := some (d.name, d.qual, d.params, .stmts d.body, d.scope, mainGlobals, [], builtinsNs)
/-! ### the hook -/
structure SaysM (fa : List Fa) (fn fs fm : List DefD) (ts : List Tab) (ex : PySem.W.Frag → Bool) (w : World) (K : PySem.W.Frag) : Prop where
  b : SaysS fa fn fs ts ex w K
  m : (fm.map fun d => He5.fnA K (cmAd K d.at_)) = fm.map valM
theorem SaysM.at_ {fa : List Fa} {fn fs fm : List DefD} {ts : List Tab} {ex : PySem.W.Frag → Bool} {w : World} {K : PySem.W.Frag} (c : SaysM fa fn fs fm ts ex w K) (i : Nat) {d : DefD} (h : fm[i]? = some d) : He5.fnA K (cmAd K d.at_) = valM d := by
  have e : (fm.map fun d => He5.fnA K (cmAd K d.at_))[i]? = (fm.map valM)[i]? := by rw [c.m]
  rw [List.getElem?_map, List.getElem?_map, h] at e
  exact Option.some.inj e
end Cl
namespace Cl.Kl
open PySem PySem.Spec PyProof.Rows L2 He ClX
noncomputable abbrev PP : Program := (PySem.Challenge.rw_cliplore_k28_machine_tables_refused).prog
def top (i : Nat) : Stmt := PySem.Challenge.pw_cliplore_k28_machine_tables_refused.main.body.getD i (.Pass ⟨0, 0, 0, 0⟩)
abbrev st_BadAlphabet_init : Stmt := inClass (top 3) 0
abbrev N_BadAlphabet_init : List Str := ["self", "part"]
abbrev st_all_different : Stmt := top 11
abbrev N_all_different : List Str := ["text"]
abbrev st_Alphabet_init : Stmt := inClass (top 12) 2
abbrev N_Alphabet_init : List Str := ["self", "letters", "vowels", "foreign", "sign"]
abbrev st_Alphabet_is_word : Stmt := inClass (top 12) 6
abbrev N_Alphabet_is_word : List Str := ["self", "text", "sign"]
abbrev st_BadTable_init : Stmt := inClass (top 5) 0
abbrev N_BadTable_init : List Str := ["self", "place"]
abbrev st_check_machine : Stmt := top 7
abbrev N_check_machine : List Str := ["alphabet", "first", "rows", "ends", "place", "step"]
abbrev st_Machine_init : Stmt := inClass (top 8) 0
abbrev N_Machine_init : List Str := ["self", "alphabet", "first", "rows", "ends", "steps"]
abbrev st_l_bag : Stmt := top 14
abbrev N_l_bag : List Str := ["_law_script"]
abbrev st_l_take : Stmt := top 15
abbrev N_l_take : List Str := ["_law_bag_here", "_law_size", "_law_rest", "_law_cell"]
abbrev st_l_letters : Stmt := top 16
abbrev N_l_letters : List Str := ["_law_bag_here", "_law_top", "_law_rest", "_law_letters_here", "_law_k"]
abbrev st_l_vowels : Stmt := top 17
abbrev N_l_vowels : List Str := ["_law_bag_here", "_law_letters_here", "_law_sign"]
abbrev st_l_word : Stmt := top 18
abbrev N_l_word : List Str := ["_law_bag_here", "_law_signs", "_law_top", "_law_word_here", "_law_k"]
abbrev st_l_table : Stmt := top 19
abbrev N_l_table : List Str := ["_law_bag_here", "_law_signs", "_law_top", "_law_many", "_law_rows", "_law_ends", "_law_place", "_law_row", "_law_at", "_law_target", "_law_text", "_law_ending"]
abbrev st_l_is_integer : Stmt := top 20
abbrev N_l_is_integer : List Str := ["_law_thing"]
abbrev st_l_told : Stmt := top 21
abbrev N_l_told : List Str := ["_law_alphabet", "_law_first", "_law_rows", "_law_ends", "e"]
abbrev st_l_kinds : Stmt := top 22
abbrev N_l_kinds : List Str := ["_law_alphabet", "_law_first", "_law_rows", "_law_ends", "e"]
abbrev st_l_bend : Stmt := top 23
abbrev N_l_bend : List Str := ["_law_bag_here", "_law_rows", "_law_ends", "_law_signs", "_law_place", "_law_way", "_law_at", "_law_row", "_law_sign", "_law_great"]
abbrev st_law : Stmt := top 24
abbrev N_law : List Str := ["_law_script", "_law_bag_here", "_law_letters_here", "_law_alphabet", "_law_table_here", "_law_first", "_law_rows", "_law_ends", "_law_due", "_law_k", "_law_place", "_law_way", "_law_passed", "_law_row", "_law_told_here"]
structure Facts (K : PySem.W.Frag) (mg : Str → Option Value) : Prop where
  g_Alphabet : mg "Alphabet" = some (.ref (ga K "Alphabet"))
  g_BadAlphabet : mg "BadAlphabet" = some (.ref (ga K "BadAlphabet"))
  g_BadTable : mg "BadTable" = some (.ref (ga K "BadTable"))
  g_BadWord : mg "BadWord" = some (.ref (ga K "BadWord"))
  g_ClipError : mg "ClipError" = some (.ref (ga K "ClipError"))
  g_Machine : mg "Machine" = some (.ref (ga K "Machine"))
  g__law_bag : mg "_law_bag" = some (.ref (ga K "_law_bag"))
  g__law_bend : mg "_law_bend" = some (.ref (ga K "_law_bend"))
  g__law_is_integer : mg "_law_is_integer" = some (.ref (ga K "_law_is_integer"))
  g__law_kinds : mg "_law_kinds" = some (.ref (ga K "_law_kinds"))
  g__law_letters : mg "_law_letters" = some (.ref (ga K "_law_letters"))
  g__law_table : mg "_law_table" = some (.ref (ga K "_law_table"))
  g__law_take : mg "_law_take" = some (.ref (ga K "_law_take"))
  g__law_told : mg "_law_told" = some (.ref (ga K "_law_told"))
  g__law_vowels : mg "_law_vowels" = some (.ref (ga K "_law_vowels"))
  g__law_word : mg "_law_word" = some (.ref (ga K "_law_word"))
  g_all_different : mg "all_different" = some (.ref (ga K "all_different"))
  g_check_machine : mg "check_machine" = some (.ref (ga K "check_machine"))
  g_law : mg "law" = some (.ref (ga K "law"))
  n_ValueError : mg "ValueError" = none
  n_bool : mg "bool" = none
  n_int : mg "int" = none
  n_isinstance : mg "isinstance" = none
  n_len : mg "len" = none
  n_list : mg "list" = none
  n_min : mg "min" = none
  n_range : mg "range" = none
  n_set : mg "set" = none
  n_sorted : mg "sorted" = none
  i_BadAlphabet : PySem.W.findIn K (.ref (ga K "BadAlphabet")) "__init__" = some (some (.ref (fAd K ("BadAlphabet", some "__init__"))))
  ti_BadAlphabet : PySem.W.typeIn K (.ref (fAd K ("BadAlphabet", some "__init__"))) = some (.type "function")
  i_BadTable : PySem.W.findIn K (.ref (ga K "BadTable")) "__init__" = some (some (.ref (fAd K ("BadTable", some "__init__"))))
  ti_BadTable : PySem.W.typeIn K (.ref (fAd K ("BadTable", some "__init__"))) = some (.type "function")
  no_BadAlphabet_part : PySem.W.findIn K (.ref (ga K "BadAlphabet")) "part" = some none
  no_BadTable_place : PySem.W.findIn K (.ref (ga K "BadTable")) "place" = some none
  no_Alphabet_letters : PySem.W.findIn K (.ref (ga K "Alphabet")) "letters" = some none
  no_Alphabet_vowels : PySem.W.findIn K (.ref (ga K "Alphabet")) "vowels" = some none
  no_Alphabet_consonants : PySem.W.findIn K (.ref (ga K "Alphabet")) "consonants" = some none
  no_Alphabet_signs : PySem.W.findIn K (.ref (ga K "Alphabet")) "signs" = some none
  no_Machine_alphabet : PySem.W.findIn K (.ref (ga K "Machine")) "alphabet" = some none
  no_Machine_first : PySem.W.findIn K (.ref (ga K "Machine")) "first" = some none
  no_Machine_rows : PySem.W.findIn K (.ref (ga K "Machine")) "rows" = some none
  no_Machine_ends : PySem.W.findIn K (.ref (ga K "Machine")) "ends" = some none
  c_Alphabet : Cls K (ga K "Alphabet")
  c_Machine : Cls K (ga K "Machine")
  mk_Machine : Mk K (ga K "Machine") (fAd K ("Machine", some "__init__"))
  mk_Alphabet : Mk K (ga K "Alphabet") (fAd K ("Alphabet", some "__init__"))
  v_SMALL : ∃ t, mg "SMALL" = some (.str (S [97, 98, 99, 100, 101, 102, 103, 104, 105, 106, 107, 108, 109, 110, 111, 112, 113, 114, 115, 116, 117, 118, 119, 120, 121, 122]) t)
  F_BadAlphabet_init : FunD K "__init__" "BadAlphabet.__init__" (defArgs st_BadAlphabet_init) (defBody st_BadAlphabet_init) (defScope st_BadAlphabet_init) [] [] (fAd K ("BadAlphabet", some "__init__")) (fdOf K ("BadAlphabet", some "__init__"))
  F_all_different : FunD K "all_different" "all_different" (defArgs st_all_different) (defBody st_all_different) (defScope st_all_different) [] [] (fAd K ("all_different", none)) (fdOf K ("all_different", none))
  F_Alphabet_init : FunD K "__init__" "Alphabet.__init__" (defArgs st_Alphabet_init) (defBody st_Alphabet_init) (defScope st_Alphabet_init) [sv []] [] (fAd K ("Alphabet", some "__init__")) (fdOf K ("Alphabet", some "__init__"))
  F_Alphabet_is_word : FunD K "is_word" "Alphabet.is_word" (defArgs st_Alphabet_is_word) (defBody st_Alphabet_is_word) (defScope st_Alphabet_is_word) [] [] (fAd K ("Alphabet", some "is_word")) (fdOf K ("Alphabet", some "is_word"))
  F_BadTable_init : FunD K "__init__" "BadTable.__init__" (defArgs st_BadTable_init) (defBody st_BadTable_init) (defScope st_BadTable_init) [] [] (fAd K ("BadTable", some "__init__")) (fdOf K ("BadTable", some "__init__"))
  F_check_machine : FunD K "check_machine" "check_machine" (defArgs st_check_machine) (defBody st_check_machine) (defScope st_check_machine) [] [] (fAd K ("check_machine", none)) (fdOf K ("check_machine", none))
  F_Machine_init : FunD K "__init__" "Machine.__init__" (defArgs st_Machine_init) (defBody st_Machine_init) (defScope st_Machine_init) [] [] (fAd K ("Machine", some "__init__")) (fdOf K ("Machine", some "__init__"))
  F_l_bag : FunD K "_law_bag" "_law_bag" (defArgs st_l_bag) (defBody st_l_bag) (defScope st_l_bag) [] [] (fAd K ("_law_bag", none)) (fdOf K ("_law_bag", none))
  F_l_take : FunD K "_law_take" "_law_take" (defArgs st_l_take) (defBody st_l_take) (defScope st_l_take) [] [] (fAd K ("_law_take", none)) (fdOf K ("_law_take", none))
  F_l_letters : FunD K "_law_letters" "_law_letters" (defArgs st_l_letters) (defBody st_l_letters) (defScope st_l_letters) [] [] (fAd K ("_law_letters", none)) (fdOf K ("_law_letters", none))
  F_l_vowels : FunD K "_law_vowels" "_law_vowels" (defArgs st_l_vowels) (defBody st_l_vowels) (defScope st_l_vowels) [] [] (fAd K ("_law_vowels", none)) (fdOf K ("_law_vowels", none))
  F_l_word : FunD K "_law_word" "_law_word" (defArgs st_l_word) (defBody st_l_word) (defScope st_l_word) [] [] (fAd K ("_law_word", none)) (fdOf K ("_law_word", none))
  F_l_table : FunD K "_law_table" "_law_table" (defArgs st_l_table) (defBody st_l_table) (defScope st_l_table) [] [] (fAd K ("_law_table", none)) (fdOf K ("_law_table", none))
  F_l_is_integer : FunD K "_law_is_integer" "_law_is_integer" (defArgs st_l_is_integer) (defBody st_l_is_integer) (defScope st_l_is_integer) [] [] (fAd K ("_law_is_integer", none)) (fdOf K ("_law_is_integer", none))
  F_l_told : FunD K "_law_told" "_law_told" (defArgs st_l_told) (defBody st_l_told) (defScope st_l_told) [] [] (fAd K ("_law_told", none)) (fdOf K ("_law_told", none))
  F_l_kinds : FunD K "_law_kinds" "_law_kinds" (defArgs st_l_kinds) (defBody st_l_kinds) (defScope st_l_kinds) [] [] (fAd K ("_law_kinds", none)) (fdOf K ("_law_kinds", none))
  F_l_bend : FunD K "_law_bend" "_law_bend" (defArgs st_l_bend) (defBody st_l_bend) (defScope st_l_bend) [] [] (fAd K ("_law_bend", none)) (fdOf K ("_law_bend", none))
  F_law : FunD K "law" "law" (defArgs st_law) (defBody st_law) (defScope st_law) [] [] (fAd K ("law", none)) (fdOf K ("law", none))
  x_BadAlphabet : XCls K (ga K "BadAlphabet")
  x_BadTable : XCls K (ga K "BadTable")
  bi : BInit K (ga K "ClipError")
  kt_Alphabet_Alphabet : PySem.W.kitOne K (.ref (ga K "Alphabet")) (.ref (ga K "Alphabet")) = some true
  kt_Machine_Machine : PySem.W.kitOne K (.ref (ga K "Machine")) (.ref (ga K "Machine")) = some true
  kt_BadTable_ValueError : PySem.W.kitOne K (.ref (ga K "BadTable")) (.type "ValueError") = some true
  kt_BadTable_BadTable : PySem.W.kitOne K (.ref (ga K "BadTable")) (.ref (ga K "BadTable")) = some true
  kt_BadTable_BadWord : PySem.W.kitOne K (.ref (ga K "BadTable")) (.ref (ga K "BadWord")) = some false
  em_BadTable_BadTable : PySem.W.exmOne K (.ref (ga K "BadTable")) (.ref (ga K "BadTable")) = some true
  em_BadTable_ClipError : PySem.W.exmOne K (.ref (ga K "BadTable")) (.ref (ga K "ClipError")) = some true
  ic_Alphabet : ICls K (ga K "Alphabet")
  ic_Machine : ICls K (ga K "Machine")
  kt_int_int : PySem.W.kitOne K (.type "int") (.type "int") = some true
  kt_int_bool : PySem.W.kitOne K (.type "int") (.type "bool") = some false
  cr_Alphabet : CRead K (ga K "Alphabet") (.type "type")
  cv_Alphabet_JOINT : ∃ u, CVal K (ga K "Alphabet") (.type "type") "JOINT" (sv [45]) u
  cv_Alphabet_MOST : ∃ u, CVal K (ga K "Alphabet") (.type "type") "MOST" (.int 8) u
  mb_Alphabet_is_word : Meth K (ga K "Alphabet") "is_word" (fAd K ("Alphabet", some "is_word"))
def fa : List Fa := [.glo "Alphabet", .glo "BadAlphabet", .glo "BadTable", .glo "BadWord", .glo "ClipError", .glo "Machine", .glo "_law_bag", .glo "_law_bend", .glo "_law_is_integer", .glo "_law_kinds", .glo "_law_letters", .glo "_law_table", .glo "_law_take", .glo "_law_told", .glo "_law_vowels", .glo "_law_word", .glo "all_different", .glo "check_machine", .glo "law", .free "ValueError", .free "bool", .free "int", .free "isinstance", .free "len", .free "list", .free "min", .free "range", .free "set", .free "sorted", .meth "BadAlphabet" "__init__", .meth "BadTable" "__init__", .noat "BadAlphabet" "part", .noat "BadTable" "place", .noat "Alphabet" "letters", .noat "Alphabet" "vowels", .noat "Alphabet" "consonants", .noat "Alphabet" "signs", .noat "Machine" "alphabet", .noat "Machine" "first", .noat "Machine" "rows", .noat "Machine" "ends", .cls "Alphabet", .cls "Machine", .mkr "Machine", .mkr "Alphabet", .str "SMALL" (S [97, 98, 99, 100, 101, 102, 103, 104, 105, 106, 107, 108, 109, 110, 111, 112, 113, 114, 115, 116, 117, 118, 119, 120, 121, 122])]
def d_BadAlphabet_init : DefD := ⟨("BadAlphabet", some "__init__"), "__init__", "BadAlphabet.__init__", defArgs st_BadAlphabet_init, defBody st_BadAlphabet_init, defScope st_BadAlphabet_init, [], []⟩
def d_all_different : DefD := ⟨("all_different", none), "all_different", "all_different", defArgs st_all_different, defBody st_all_different, defScope st_all_different, [], []⟩
def d_Alphabet_init : DefD := ⟨("Alphabet", some "__init__"), "__init__", "Alphabet.__init__", defArgs st_Alphabet_init, defBody st_Alphabet_init, defScope st_Alphabet_init, [.str (S [])], []⟩
def d_Alphabet_is_word : DefD := ⟨("Alphabet", some "is_word"), "is_word", "Alphabet.is_word", defArgs st_Alphabet_is_word, defBody st_Alphabet_is_word, defScope st_Alphabet_is_word, [], []⟩
def d_BadTable_init : DefD := ⟨("BadTable", some "__init__"), "__init__", "BadTable.__init__", defArgs st_BadTable_init, defBody st_BadTable_init, defScope st_BadTable_init, [], []⟩
def d_check_machine : DefD := ⟨("check_machine", none), "check_machine", "check_machine", defArgs st_check_machine, defBody st_check_machine, defScope st_check_machine, [], []⟩
def d_Machine_init : DefD := ⟨("Machine", some "__init__"), "__init__", "Machine.__init__", defArgs st_Machine_init, defBody st_Machine_init, defScope st_Machine_init, [], []⟩
def d_l_bag : DefD := ⟨("_law_bag", none), "_law_bag", "_law_bag", defArgs st_l_bag, defBody st_l_bag, defScope st_l_bag, [], []⟩
def d_l_take : DefD := ⟨("_law_take", none), "_law_take", "_law_take", defArgs st_l_take, defBody st_l_take, defScope st_l_take, [], []⟩
def d_l_letters : DefD := ⟨("_law_letters", none), "_law_letters", "_law_letters", defArgs st_l_letters, defBody st_l_letters, defScope st_l_letters, [], []⟩
def d_l_vowels : DefD := ⟨("_law_vowels", none), "_law_vowels", "_law_vowels", defArgs st_l_vowels, defBody st_l_vowels, defScope st_l_vowels, [], []⟩
def d_l_word : DefD := ⟨("_law_word", none), "_law_word", "_law_word", defArgs st_l_word, defBody st_l_word, defScope st_l_word, [], []⟩
def d_l_table : DefD := ⟨("_law_table", none), "_law_table", "_law_table", defArgs st_l_table, defBody st_l_table, defScope st_l_table, [], []⟩
def d_l_is_integer : DefD := ⟨("_law_is_integer", none), "_law_is_integer", "_law_is_integer", defArgs st_l_is_integer, defBody st_l_is_integer, defScope st_l_is_integer, [], []⟩
def d_l_told : DefD := ⟨("_law_told", none), "_law_told", "_law_told", defArgs st_l_told, defBody st_l_told, defScope st_l_told, [], []⟩
def d_l_kinds : DefD := ⟨("_law_kinds", none), "_law_kinds", "_law_kinds", defArgs st_l_kinds, defBody st_l_kinds, defScope st_l_kinds, [], []⟩
def d_l_bend : DefD := ⟨("_law_bend", none), "_law_bend", "_law_bend", defArgs st_l_bend, defBody st_l_bend, defScope st_l_bend, [], []⟩
def d_law : DefD := ⟨("law", none), "law", "law", defArgs st_law, defBody st_law, defScope st_law, [], []⟩
def fnd : List DefD := [d_BadAlphabet_init, d_all_different, d_Alphabet_init, d_Alphabet_is_word, d_BadTable_init, d_check_machine, d_Machine_init, d_l_bag, d_l_take, d_l_letters, d_l_vowels, d_l_word, d_l_table, d_l_is_integer, d_l_told, d_l_kinds, d_l_bend, d_law]
def fns : List DefD := []
noncomputable def ex (K : PySem.W.Frag) : Bool := xclsB K (ga K "BadAlphabet") && (xclsB K (ga K "BadTable") && (binitB K (ga K "ClipError") && (decide (PySem.W.kitOne K (.ref (ga K "Alphabet")) (.ref (ga K "Alphabet")) = some true) && (decide (PySem.W.kitOne K (.ref (ga K "Machine")) (.ref (ga K "Machine")) = some true) && (decide (PySem.W.kitOne K (.ref (ga K "BadTable")) (.type "ValueError") = some true) && (decide (PySem.W.kitOne K (.ref (ga K "BadTable")) (.ref (ga K "BadTable")) = some true) && (decide (PySem.W.kitOne K (.ref (ga K "BadTable")) (.ref (ga K "BadWord")) = some false) && (decide (PySem.W.exmOne K (.ref (ga K "BadTable")) (.ref (ga K "BadTable")) = some true) && (decide (PySem.W.exmOne K (.ref (ga K "BadTable")) (.ref (ga K "ClipError")) = some true) && (iclsB K (ga K "Alphabet") && (iclsB K (ga K "Machine") && (decide (PySem.W.kitOne K (.type "int") (.type "int") = some true) && (decide (PySem.W.kitOne K (.type "int") (.type "bool") = some false) && (creadB K (ga K "Alphabet") && (cvalB K (ga K "Alphabet") "JOINT" (sv [45]) && (cvalB K (ga K "Alphabet") "MOST" (.int 8) && (methB K (ga K "Alphabet") "is_word" (fAd K ("Alphabet", some "is_word")))))))))))))))))))
theorem facts_of {K : PySem.W.Frag} {w : World} {h : Heap} {mg : Str → Option Value} (X : K.In h) (G : h.Ns mainGlobals mg) (c : SaysS fa fnd fns [] ex w K) : Facts K mg := by
  have hx := c.c.more
  obtain ⟨h1, hx⟩ := ba hx
  obtain ⟨h2, hx⟩ := ba hx
  obtain ⟨h3, hx⟩ := ba hx
  obtain ⟨h4, hx⟩ := ba hx
  obtain ⟨h5, hx⟩ := ba hx
  obtain ⟨h6, hx⟩ := ba hx
  obtain ⟨h7, hx⟩ := ba hx
  obtain ⟨h8, hx⟩ := ba hx
  obtain ⟨h9, hx⟩ := ba hx
  obtain ⟨h10, hx⟩ := ba hx
  obtain ⟨h11, hx⟩ := ba hx
  obtain ⟨h12, hx⟩ := ba hx
  obtain ⟨h13, hx⟩ := ba hx
  obtain ⟨h14, hx⟩ := ba hx
  obtain ⟨h15, hx⟩ := ba hx
  obtain ⟨h16, hx⟩ := ba hx
  obtain ⟨h17, hx⟩ := ba hx
  have h18 := hx
  exact {
    g_Alphabet := glo_ok X G (c.c.t.d.fact 0 (f := .glo "Alphabet") rfl),
    g_BadAlphabet := glo_ok X G (c.c.t.d.fact 1 (f := .glo "BadAlphabet") rfl),
    g_BadTable := glo_ok X G (c.c.t.d.fact 2 (f := .glo "BadTable") rfl),
    g_BadWord := glo_ok X G (c.c.t.d.fact 3 (f := .glo "BadWord") rfl),
    g_ClipError := glo_ok X G (c.c.t.d.fact 4 (f := .glo "ClipError") rfl),
    g_Machine := glo_ok X G (c.c.t.d.fact 5 (f := .glo "Machine") rfl),
    g__law_bag := glo_ok X G (c.c.t.d.fact 6 (f := .glo "_law_bag") rfl),
    g__law_bend := glo_ok X G (c.c.t.d.fact 7 (f := .glo "_law_bend") rfl),
    g__law_is_integer := glo_ok X G (c.c.t.d.fact 8 (f := .glo "_law_is_integer") rfl),
    g__law_kinds := glo_ok X G (c.c.t.d.fact 9 (f := .glo "_law_kinds") rfl),
    g__law_letters := glo_ok X G (c.c.t.d.fact 10 (f := .glo "_law_letters") rfl),
    g__law_table := glo_ok X G (c.c.t.d.fact 11 (f := .glo "_law_table") rfl),
    g__law_take := glo_ok X G (c.c.t.d.fact 12 (f := .glo "_law_take") rfl),
    g__law_told := glo_ok X G (c.c.t.d.fact 13 (f := .glo "_law_told") rfl),
    g__law_vowels := glo_ok X G (c.c.t.d.fact 14 (f := .glo "_law_vowels") rfl),
    g__law_word := glo_ok X G (c.c.t.d.fact 15 (f := .glo "_law_word") rfl),
    g_all_different := glo_ok X G (c.c.t.d.fact 16 (f := .glo "all_different") rfl),
    g_check_machine := glo_ok X G (c.c.t.d.fact 17 (f := .glo "check_machine") rfl),
    g_law := glo_ok X G (c.c.t.d.fact 18 (f := .glo "law") rfl),
    n_ValueError := free_ok X G (c.c.t.d.fact 19 (f := .free "ValueError") rfl),
    n_bool := free_ok X G (c.c.t.d.fact 20 (f := .free "bool") rfl),
    n_int := free_ok X G (c.c.t.d.fact 21 (f := .free "int") rfl),
    n_isinstance := free_ok X G (c.c.t.d.fact 22 (f := .free "isinstance") rfl),
    n_len := free_ok X G (c.c.t.d.fact 23 (f := .free "len") rfl),
    n_list := free_ok X G (c.c.t.d.fact 24 (f := .free "list") rfl),
    n_min := free_ok X G (c.c.t.d.fact 25 (f := .free "min") rfl),
    n_range := free_ok X G (c.c.t.d.fact 26 (f := .free "range") rfl),
    n_set := free_ok X G (c.c.t.d.fact 27 (f := .free "set") rfl),
    n_sorted := free_ok X G (c.c.t.d.fact 28 (f := .free "sorted") rfl),
    i_BadAlphabet := eqO_ok (ba (c.c.t.d.fact 29 (f := .meth "BadAlphabet" "__init__") rfl)).1,
    ti_BadAlphabet := beq_iff_eq.mp (ba (ba (c.c.t.d.fact 29 (f := .meth "BadAlphabet" "__init__") rfl)).2).1,
    i_BadTable := eqO_ok (ba (c.c.t.d.fact 30 (f := .meth "BadTable" "__init__") rfl)).1,
    ti_BadTable := beq_iff_eq.mp (ba (ba (c.c.t.d.fact 30 (f := .meth "BadTable" "__init__") rfl)).2).1,
    no_BadAlphabet_part := eqO_ok (c.c.t.d.fact 31 (f := .noat "BadAlphabet" "part") rfl),
    no_BadTable_place := eqO_ok (c.c.t.d.fact 32 (f := .noat "BadTable" "place") rfl),
    no_Alphabet_letters := eqO_ok (c.c.t.d.fact 33 (f := .noat "Alphabet" "letters") rfl),
    no_Alphabet_vowels := eqO_ok (c.c.t.d.fact 34 (f := .noat "Alphabet" "vowels") rfl),
    no_Alphabet_consonants := eqO_ok (c.c.t.d.fact 35 (f := .noat "Alphabet" "consonants") rfl),
    no_Alphabet_signs := eqO_ok (c.c.t.d.fact 36 (f := .noat "Alphabet" "signs") rfl),
    no_Machine_alphabet := eqO_ok (c.c.t.d.fact 37 (f := .noat "Machine" "alphabet") rfl),
    no_Machine_first := eqO_ok (c.c.t.d.fact 38 (f := .noat "Machine" "first") rfl),
    no_Machine_rows := eqO_ok (c.c.t.d.fact 39 (f := .noat "Machine" "rows") rfl),
    no_Machine_ends := eqO_ok (c.c.t.d.fact 40 (f := .noat "Machine" "ends") rfl),
    c_Alphabet := cls_ok (c.c.t.d.fact 41 (f := .cls "Alphabet") rfl),
    c_Machine := cls_ok (c.c.t.d.fact 42 (f := .cls "Machine") rfl),
    mk_Machine := mkr_ok (c.c.t.d.fact 43 (f := .mkr "Machine") rfl),
    mk_Alphabet := mkr_ok (c.c.t.d.fact 44 (f := .mkr "Alphabet") rfl),
    v_SMALL := str_ok X G (c.c.t.d.fact 45 (f := .str "SMALL" (S [97, 98, 99, 100, 101, 102, 103, 104, 105, 106, 107, 108, 109, 110, 111, 112, 113, 114, 115, 116, 117, 118, 119, 120, 121, 122])) rfl),
    F_BadAlphabet_init := fn_at (c.c.t.d.def_ 0 (d := d_BadAlphabet_init) rfl),
    F_all_different := fn_at (c.c.t.d.def_ 1 (d := d_all_different) rfl),
    F_Alphabet_init := fn_at (c.c.t.d.def_ 2 (d := d_Alphabet_init) rfl),
    F_Alphabet_is_word := fn_at (c.c.t.d.def_ 3 (d := d_Alphabet_is_word) rfl),
    F_BadTable_init := fn_at (c.c.t.d.def_ 4 (d := d_BadTable_init) rfl),
    F_check_machine := fn_at (c.c.t.d.def_ 5 (d := d_check_machine) rfl),
    F_Machine_init := fn_at (c.c.t.d.def_ 6 (d := d_Machine_init) rfl),
    F_l_bag := fn_at (c.c.t.d.def_ 7 (d := d_l_bag) rfl),
    F_l_take := fn_at (c.c.t.d.def_ 8 (d := d_l_take) rfl),
    F_l_letters := fn_at (c.c.t.d.def_ 9 (d := d_l_letters) rfl),
    F_l_vowels := fn_at (c.c.t.d.def_ 10 (d := d_l_vowels) rfl),
    F_l_word := fn_at (c.c.t.d.def_ 11 (d := d_l_word) rfl),
    F_l_table := fn_at (c.c.t.d.def_ 12 (d := d_l_table) rfl),
    F_l_is_integer := fn_at (c.c.t.d.def_ 13 (d := d_l_is_integer) rfl),
    F_l_told := fn_at (c.c.t.d.def_ 14 (d := d_l_told) rfl),
    F_l_kinds := fn_at (c.c.t.d.def_ 15 (d := d_l_kinds) rfl),
    F_l_bend := fn_at (c.c.t.d.def_ 16 (d := d_l_bend) rfl),
    F_law := fn_at (c.c.t.d.def_ 17 (d := d_law) rfl),
    x_BadAlphabet := xclsB_ok h1,
    x_BadTable := xclsB_ok h2,
    bi := binitB_ok h3,
    kt_Alphabet_Alphabet := of_decide_eq_true h4,
    kt_Machine_Machine := of_decide_eq_true h5,
    kt_BadTable_ValueError := of_decide_eq_true h6,
    kt_BadTable_BadTable := of_decide_eq_true h7,
    kt_BadTable_BadWord := of_decide_eq_true h8,
    em_BadTable_BadTable := of_decide_eq_true h9,
    em_BadTable_ClipError := of_decide_eq_true h10,
    ic_Alphabet := iclsB_ok h11,
    ic_Machine := iclsB_ok h12,
    kt_int_int := of_decide_eq_true h13,
    kt_int_bool := of_decide_eq_true h14,
    cr_Alphabet := creadB_ok h15,
    cv_Alphabet_JOINT := cvalB_ok h16,
    cv_Alphabet_MOST := cvalB_ok h17,
    mb_Alphabet_is_word := methB_ok h18 }
end Cl.Kl
namespace Cl.Kl
open PySem PySem.Spec PyProof.Rows L2 He ClX
abbrev R : PySem.W.OpenRow := PySem.W.OpenLaw.row PySem.Challenge.rw_cliplore_k28_machine_tables_refused
def loose : List PySem.Str := (["_wall", "ClipError", "BadAlphabet", "BadWord", "BadTable", "check_machine", "Machine", "SMALL", "all_different", "Alphabet", "_law_bag", "_law_take", "_law_letters", "_law_vowels", "_law_word", "_law_table", "_law_is_integer", "_law_told", "_law_kinds", "_law_bend"] : List PySem.Str)
noncomputable abbrev hk : PySem.W.Hook := hookS 4 fa fnd fns [] ex
noncomputable def ob (s : PySem.W.SharedT) : (AlT × Bool) × List FnS := obsS 4 fa fnd fns [] ex (HandSHeadRun.getT s)
theorem ob_eq (s : PySem.W.SharedT) : ob s = hk.obs s.abs := obsS_eq (HandSHeadRun.getT_eq s)
set_option maxHeartbeats 0 in
theorem run (w : World) : HandSHeadRun.RunEq R (PySem.W.view R.prog [24]) hk ob 6000 loose w := by
  intro os
  kernel_rfl
end Cl.Kl
/-! The layer of values, part 1: data without addresses, mutable cells, how they lie in a heap. -/
namespace Cl
open PySem PySem.Spec PyProof.Rows L2 He ClX
/-- the classes -/
inductive Cn where
  | Alphabet | Stage | Drop | LastDrop | Write | Once | Add | Rule | ShapeReader | Stock | Machine | Readings | Lot | Book | Questions
  | ClipError | BadAlphabet | BadWord | BadStage | BadRule | BadShape | BadTable | Mixed | BadLot | BadLimit | TooMany | OutsideStock | NoRule | NoEntry | NoClass | NoHistory | BadDeed | NoPlan
  deriving DecidableEq
def Cn.str : Cn → Str
  | .Alphabet => "Alphabet" | .Stage => "Stage" | .Drop => "Drop" | .LastDrop => "LastDrop" | .Write => "Write" | .Once => "Once" | .Add => "Add" | .Rule => "Rule" | .ShapeReader => "ShapeReader" | .Stock => "Stock" | .Machine => "Machine" | .Readings => "Readings" | .Lot => "Lot" | .Book => "Book" | .Questions => "Questions"
  | .ClipError => "ClipError" | .BadAlphabet => "BadAlphabet" | .BadWord => "BadWord" | .BadStage => "BadStage" | .BadRule => "BadRule" | .BadShape => "BadShape" | .BadTable => "BadTable" | .Mixed => "Mixed" | .BadLot => "BadLot" | .BadLimit => "BadLimit" | .TooMany => "TooMany" | .OutsideStock => "OutsideStock" | .NoRule => "NoRule" | .NoEntry => "NoEntry" | .NoClass => "NoClass" | .NoHistory => "NoHistory" | .BadDeed => "BadDeed" | .NoPlan => "NoPlan"
/-- the fields -/
inductive Fd where
  | letters | vowels | consonants | signs | alphabet | name | chosen | after | each | sign | stages | source | at_ | atoms | follows | rows | goods | first | ends | nodes | edges | finals | live | rules
  | lot | stock | classes | state | now | past | undone | queries | possible | shorts | known | part | word | what | stage | place | number | asked | fewest | way | index | one | two
  deriving DecidableEq
def Fd.str : Fd → Str
  | .letters => "letters" | .vowels => "vowels" | .consonants => "consonants" | .signs => "signs" | .alphabet => "alphabet" | .name => "name" | .chosen => "chosen" | .after => "after" | .each => "each" | .sign => "sign" | .stages => "stages" | .source => "source" | .at_ => "at" | .atoms => "atoms" | .follows => "follows" | .rows => "rows" | .goods => "goods" | .first => "first" | .ends => "ends" | .nodes => "nodes" | .edges => "edges" | .finals => "finals" | .live => "live" | .rules => "rules"
  | .lot => "lot" | .stock => "stock" | .classes => "classes" | .state => "state" | .now => "now" | .past => "past" | .undone => "undone" | .queries => "queries" | .possible => "possible" | .shorts => "shorts" | .known => "known" | .part => "part" | .word => "word" | .what => "what" | .stage => "stage" | .place => "place" | .number => "number" | .asked => "asked" | .fewest => "fewest" | .way => "way" | .index => "index" | .one => "one" | .two => "two"
/-- the fields of a class, in the order of their stores -/
def Cn.flds : Cn → List Fd
  | .Alphabet => [.letters, .vowels, .consonants, .signs]
  | .Stage => [.alphabet]
  | .Drop | .LastDrop => [.alphabet, .name, .chosen, .after, .each]
  | .Write => [.alphabet, .sign, .name, .chosen]
  | .Once => [.alphabet, .name, .chosen]
  | .Add => [.alphabet, .sign]
  | .Rule => [.alphabet, .stages]
  | .ShapeReader => [.alphabet, .source, .at_, .atoms, .follows]
  | .Stock => [.alphabet, .rows, .goods]
  | .Machine => [.alphabet, .first, .rows, .ends]
  | .Readings => [.signs, .nodes, .edges, .finals, .live]
  | .Lot => [.alphabet, .rules]
  | .Book => [.lot, .stock, .classes, .state, .now, .past, .undone]
  | .Questions => [.queries, .possible, .shorts, .known]
  | .BadAlphabet => [.part] | .BadWord => [.word] | .BadStage => [.what] | .BadRule => [.what, .stage] | .BadShape => [.place] | .BadTable => [.place] | .BadLot => [.number] | .BadLimit => [.asked] | .TooMany => [.number] | .OutsideStock => [.word] | .NoRule => [.fewest] | .NoEntry => [.number] | .NoClass => [.number] | .NoHistory => [.way] | .BadDeed => [.index] | .NoPlan => [.two, .one]
  | .ClipError | .Mixed => []
def Fd.all : List Fd := [.letters, .vowels, .consonants, .signs, .alphabet, .name, .chosen, .after, .each, .sign, .stages, .source, .at_, .atoms, .follows, .rows, .goods, .first, .ends, .nodes, .edges, .finals, .live, .rules, .lot, .stock, .classes, .state, .now, .past, .undone, .queries, .possible, .shorts, .known, .part, .word, .what, .stage, .place, .number, .asked, .fewest, .way, .index, .one, .two]
def Fd.of (x : Str) : Option Fd := Fd.all.find? fun f => decide (f.str = x)
theorem Fd.of_str (f : Fd) : Fd.of f.str = some f := by cases f <;> decide +kernel
theorem Fd.inj {f g : Fd} (h : f.str = g.str) : f = g := Option.some.inj ((Fd.of_str f).symm.trans ((congrArg Fd.of h).trans (Fd.of_str g)))
theorem Cn.nodup (c : Cn) : c.flds.Nodup := by cases c <;> decide
/-- the place of a field -/
def Cn.ix (c : Cn) (f : Fd) : Nat := c.flds.idxOf f
/-- data -/
inductive PV where
  | non | bl (b : Bool) | int (i : Int) | str (z : List Nat) | lst (xs : List PV) | tup (xs : List PV) | obj (c : Cn) (xs : List PV) | ty (n : String) | cls (c : Cn) | dct (ks : List Key) (xs : List PV) | scr (ns : List Int)
/-- a value: data, or a mutable cell -/
inductive D where
  | v (x : PV) | cell (i : Nat) | exn (a : Addr)
/-- what a cell holds -/
inductive Cell where
  | lst (xs : List D) | obj (c : Cn) (xs : List D) | dct (kvs : List (Key × D)) | dtt (kvs : List (List Key × D)) | tpl (xs : List D) | dnn (es : List (PV × Int × D))
abbrev Mem := List (Option Cell)
abbrev DSt := List (Option D)
/-- an error -/
structure DErr where
  c : Cn
  xs : List PV
/-! ### lists side by side -/
inductive A2 {α β : Type} (R : α → β → Prop) : List α → List β → Prop
  | nil : A2 R [] []
  | cons {a : α} {b : β} {as : List α} {bs : List β} : R a b → A2 R as bs → A2 R (a :: as) (b :: bs)
section
variable {α β : Type} {R S : α → β → Prop}
theorem A2.len : ∀ {as : List α} {bs : List β}, A2 R as bs → as.length = bs.length
  | _, _, .nil => rfl
  | _, _, .cons _ t => congrArg Nat.succ (A2.len t)
theorem A2.imp (f : ∀ a b, R a b → S a b) : ∀ {as : List α} {bs : List β}, A2 R as bs → A2 S as bs
  | _, _, .nil => .nil
  | _, _, .cons r t => .cons (f _ _ r) (A2.imp f t)
theorem A2.get : ∀ {as : List α} {bs : List β} {i : Nat} {a : α}, A2 R as bs → as[i]? = some a → ∃ b, bs[i]? = some b ∧ R a b
  | _, _, _, _, .nil, e => by simp at e
  | _, _, 0, _, .cons r _, e => by simp at e; subst e; exact ⟨_, rfl, r⟩
  | _, _, i + 1, a, .cons _ t, e => by
    obtain ⟨b, h1, h2⟩ := A2.get (i := i) (a := a) t (by simpa using e)
    exact ⟨b, by simpa using h1, h2⟩
theorem A2.set {a : α} {b : β} (r : R a b) : ∀ {as : List α} {bs : List β} (i : Nat), A2 R as bs → A2 R (as.set i a) (bs.set i b)
  | _, _, _, .nil => .nil
  | _, _, 0, .cons _ t => .cons r t
  | _, _, i + 1, .cons q t => .cons q (A2.set r i t)
theorem A2.append : ∀ {as cs : List α} {bs ds : List β}, A2 R as bs → A2 R cs ds → A2 R (as ++ cs) (bs ++ ds)
  | _, _, _, _, .nil, s => s
  | _, _, _, _, .cons r t, s => .cons r (A2.append t s)
theorem A2.take : ∀ {as : List α} {bs : List β} (n : Nat), A2 R as bs → A2 R (as.take n) (bs.take n)
  | _, _, 0, _ => .nil
  | _, _, _ + 1, .nil => .nil
  | _, _, n + 1, .cons r t => .cons r (A2.take n t)
theorem A2.drop : ∀ {as : List α} {bs : List β} (n : Nat), A2 R as bs → A2 R (as.drop n) (bs.drop n)
  | _, _, 0, r => r
  | _, _, _ + 1, .nil => .nil
  | _, _, n + 1, .cons _ t => A2.drop n t
theorem A2.erase : ∀ {as : List α} {bs : List β} (n : Nat), A2 R as bs → A2 R (as.eraseIdx n) (bs.eraseIdx n)
  | _, _, _, .nil => .nil
  | _, _, 0, .cons _ t => t
  | _, _, n + 1, .cons r t => .cons r (A2.erase n t)
theorem A2.reverse : ∀ {as : List α} {bs : List β}, A2 R as bs → A2 R as.reverse bs.reverse
  | _, _, .nil => .nil
  | _, _, .cons r t => by
    rw [List.reverse_cons, List.reverse_cons]
    exact (A2.reverse t).append (.cons r .nil)
theorem A2.map {γ δ : Type} {T : γ → δ → Prop} {f : γ → α} {g : δ → β} (h : ∀ c d, T c d → R (f c) (g d)) : ∀ {cs : List γ} {ds : List δ}, A2 T cs ds → A2 R (cs.map f) (ds.map g)
  | _, _, .nil => .nil
  | _, _, .cons r t => .cons (h _ _ r) (A2.map h t)
theorem A2.fn {f : α → β} (h : ∀ a b, R a b → b = f a) : ∀ {as : List α} {bs : List β}, A2 R as bs → bs = as.map f
  | _, _, .nil => rfl
  | _, _, .cons r t => by rw [h _ _ r, A2.fn h t]; rfl
theorem A2.refl {R : α → α → Prop} (h : ∀ a, R a a) : ∀ as : List α, A2 R as as
  | [] => .nil
  | a :: as => .cons (h a) (A2.refl h as)
theorem A2.of_map {γ : Type} {f : γ → α} {g : γ → β} (h : ∀ c, R (f c) (g c)) : ∀ cs : List γ, A2 R (cs.map f) (cs.map g)
  | [] => .nil
  | c :: cs => .cons (h c) (A2.of_map h cs)
end
/-! ### data in a heap -/
/-- the fields of an object, as the heap has them -/
def fz (c : Cn) (vs : List V) : List (Str × V) := (c.flds.map Fd.str).zip vs
mutual
/-- x lies in F as v -/
def Rp (K : PySem.W.Frag) (cs : List Cn) (F : Hp) : PV → V → Prop
  | .non, v => v = .non
  | .bl b, v => v = .bl b
  | .int i, v => v = .int i
  | .str z, v => v = sv z
  | .ty n, v => v = .ty n
  | .cls c, v => v = .ref (ga K c.str)
  | .scr ns, v => ∃ a, v = .ref a ∧ SqL K F a (ns.map V.int)
  | .lst xs, v => ∃ a vs, v = .ref a ∧ F a = some (.lst vs) ∧ RpL K cs F xs vs
  | .tup xs, v => ∃ a vs, v = .ref a ∧ SqT K F a vs ∧ RpL K cs F xs vs
  | .obj c xs, v => ∃ a dx vs, v = .ref a ∧ F a = some (.ins (ga K c.str) dx (fz c vs)) ∧ c ∈ cs ∧ xs.length ≤ c.flds.length ∧ RpL K cs F xs vs
  | .dct ks xs, v => ∃ a vs, v = .ref a ∧ F a = some (.dK (ks.zip vs)) ∧ ks.length = xs.length ∧ RpL K cs F xs vs
def RpL (K : PySem.W.Frag) (cs : List Cn) (F : Hp) : List PV → List V → Prop
  | [], vs => vs = []
  | x :: xs, vs => ∃ v ws, vs = v :: ws ∧ Rp K cs F x v ∧ RpL K cs F xs ws
end
section
variable {K : PySem.W.Frag} {cs : List Cn} {F F' : Hp}
theorem Same.seqT {H H' : Hp} {a : Addr} {xs : List V} (e : Same H H') (h : SqT K H a xs) : SqT K H' a xs := by
  rcases h with (h | ⟨o, h⟩) | h
  · exact .inl (.inl (e _ _ h))
  · exact .inl (.inr ⟨o, e _ _ h⟩)
  · exact .inr h
mutual
theorem Rp.same (s : Same F F') : ∀ (x : PV) (v : V), Rp K cs F x v → Rp K cs F' x v
  | .non, _, h => h
  | .bl _, _, h => h
  | .int _, _, h => h
  | .str _, _, h => h
  | .ty _, _, h => h
  | .cls _, _, h => h
  | .scr _, _, ⟨a, e, h1⟩ => ⟨a, e, s.seq h1⟩
  | .lst xs, _, ⟨a, vs, e, h1, h2⟩ => ⟨a, vs, e, s _ _ h1, RpL.same s xs vs h2⟩
  | .tup xs, _, ⟨a, vs, e, h1, h2⟩ => ⟨a, vs, e, Same.seqT s h1, RpL.same s xs vs h2⟩
  | .obj _ xs, _, ⟨a, dx, vs, e, h1, h2, h4, h3⟩ => ⟨a, dx, vs, e, s _ _ h1, h2, h4, RpL.same s xs vs h3⟩
  | .dct _ xs, _, ⟨a, vs, e, h1, h2, h3⟩ => ⟨a, vs, e, s _ _ h1, h2, RpL.same s xs vs h3⟩
theorem RpL.same (s : Same F F') : ∀ (xs : List PV) (vs : List V), RpL K cs F xs vs → RpL K cs F' xs vs
  | [], _, h => h
  | x :: xs, _, ⟨v, ws, e, h1, h2⟩ => ⟨v, ws, e, Rp.same s x v h1, RpL.same s xs ws h2⟩
end
theorem RpL.a2 : ∀ {xs : List PV} {vs : List V}, RpL K cs F xs vs → A2 (Rp K cs F) xs vs
  | [], _, h => by cases (show _ = [] from h); exact .nil
  | x :: xs, _, ⟨v, ws, e, h1, h2⟩ => by cases e; exact .cons h1 h2.a2
theorem A2.rpL : ∀ {xs : List PV} {vs : List V}, A2 (Rp K cs F) xs vs → RpL K cs F xs vs
  | _, _, .nil => (rfl : ([] : List V) = [])
  | _, _, .cons h t => ⟨_, _, rfl, h, t.rpL⟩
theorem RpL.len {xs : List PV} {vs : List V} (h : RpL K cs F xs vs) : xs.length = vs.length := h.a2.len
/-! ### values, cells -/
/-- what stands: the frozen part of the heap, the places of the cells, the heap -/
structure CS where
  F : Hp
  ρ : List Addr
  H : Hp
def RpD (K : PySem.W.Frag) (cs : List Cn) (F : Hp) (ρ : List Addr) : D → V → Prop
  | .v x, v => Rp K cs F x v
  | .cell i, v => ∃ a, ρ[i]? = some a ∧ v = .ref a
  | .exn a, v => v = .ref a
def RpKD {κ : Type} (K : PySem.W.Frag) (cs : List Cn) (F : Hp) (ρ : List Addr) (p : κ × D) (q : κ × V) : Prop := p.1 = q.1 ∧ RpD K cs F ρ p.2 q.2
/-- a dict of raw entries at a: hash, place of the key, value -/
def DnO (a : Addr) (ys : List (Int × Addr × V)) : Heap → Prop := fun h => ∃ o ep ens, h.get? a = some o ∧ o.ExactDict ∧ o.data = .dict ens ep ∧ A2 (fun (y : Int × Addr × V) (en : DictEntry) => en.hash = y.1 ∧ en.key = .ref y.2.1 ∧ RelV y.2.2 en.val) ys ens.toList
def RpN (K : PySem.W.Frag) (cs : List Cn) (F : Hp) (ρ : List Addr) (p : PV × Int × D) (q : Int × Addr × V) : Prop := p.2.1 = q.1 ∧ Rp K cs F p.1 (.ref q.2.1) ∧ RpD K cs F ρ p.2.2 q.2.2
def RpC (K : PySem.W.Frag) (cs : List Cn) (F : Hp) (ρ : List Addr) (a : Addr) : Cell → HO → Prop
  | .lst ds, o => ∃ vs, o = .lst vs ∧ A2 (RpD K cs F ρ) ds vs
  | .obj c ds, o => ∃ dx vs, o = .ins (ga K c.str) dx (fz c vs) ∧ c ∈ cs ∧ ds.length ≤ c.flds.length ∧ A2 (RpD K cs F ρ) ds vs
  | .dct ds, o => ∃ vs, o = .dK vs ∧ A2 (RpKD K cs F ρ) ds vs
  | .dtt ds, o => ∃ vs, o = .dT vs ∧ A2 (RpKD K cs F ρ) ds vs
  | .tpl ds, o => ∃ vs, o = .tup vs ∧ A2 (RpD K cs F ρ) ds vs
  | .dnn es, o => ∃ ys, o = .ext (DnO a ys) ∧ (a == sysModules) = false ∧ A2 (RpN K cs F ρ) es ys
/-- the cell at i stands at a -/
def Live (ρ : List Addr) (M : Mem) (a : Addr) : Prop := ∃ (i : Nat) (x : Cell), ρ[i]? = some a ∧ M[i]? = some (some x)
structure Rel (K : PySem.W.Frag) (cs : List Cn) (c : CS) (M : Mem) : Prop where
  same : Same c.F c.H
  len : c.ρ.length = M.length
  nd : c.ρ.Nodup
  isin : ∀ a ∈ c.ρ, c.H a ≠ none
  live : ∀ (i : Nat) (a : Addr) (x : Cell), c.ρ[i]? = some a → M[i]? = some (some x) → c.F a = none ∧ ∃ o, c.H a = some o ∧ RpC K cs c.F c.ρ a x o
/-- from one state to a later one -/
structure Step (c : CS) (M : Mem) (c' : CS) (M' : Mem) : Prop where
  same : Same c.F c'.F
  pre : c.ρ <+: c'.ρ
  frame : ∀ a o, c.H a = some o → c.F a = none → ¬ Live c.ρ M a → c'.H a = some o ∧ c'.F a = none ∧ ¬ Live c'.ρ M' a
theorem Step.refl (c : CS) (M : Mem) : Step c M c M := ⟨Same.refl _, List.prefix_refl _, fun _ _ h1 h2 h3 => ⟨h1, h2, h3⟩⟩
theorem Step.trans {c c1 c2 : CS} {M M1 M2 : Mem} (a : Step c M c1 M1) (b : Step c1 M1 c2 M2) : Step c M c2 M2 :=
  ⟨a.same.trans b.same, a.pre.trans b.pre, fun x o h1 h2 h3 => let ⟨g1, g2, g3⟩ := a.frame x o h1 h2 h3; b.frame x o g1 g2 g3⟩
theorem get_pre {α : Type} {l m : List α} (h : l <+: m) {i : Nat} {a : α} (e : l[i]? = some a) : m[i]? = some a := by
  obtain ⟨t, rfl⟩ := h
  exact (List.getElem?_append_left (List.getElem?_eq_some_iff.mp e).1).trans e
theorem RpD.mono {ρ ρ' : List Addr} (s : Same F F') (p : ρ <+: ρ') : ∀ {d : D} {v : V}, RpD K cs F ρ d v → RpD K cs F' ρ' d v
  | .v x, v, h => Rp.same s x v h
  | .cell _, _, ⟨a, e, h⟩ => ⟨a, get_pre p e, h⟩
  | .exn _, _, h => h
theorem RpC.mono {ρ ρ' : List Addr} {a : Addr} (s : Same F F') (p : ρ <+: ρ') : ∀ {x : Cell} {o : HO}, RpC K cs F ρ a x o → RpC K cs F' ρ' a x o
  | .lst _, _, ⟨vs, e, h⟩ => ⟨vs, e, h.imp fun _ _ => RpD.mono s p⟩
  | .obj _ _, _, ⟨dx, vs, e, h1, h3, h2⟩ => ⟨dx, vs, e, h1, h3, h2.imp fun _ _ => RpD.mono s p⟩
  | .dct _, _, ⟨vs, e, h⟩ => ⟨vs, e, h.imp fun _ _ q => ⟨q.1, RpD.mono s p q.2⟩⟩
  | .dtt _, _, ⟨vs, e, h⟩ => ⟨vs, e, h.imp fun _ _ q => ⟨q.1, RpD.mono s p q.2⟩⟩
  | .tpl _, _, ⟨vs, e, h⟩ => ⟨vs, e, h.imp fun _ _ => RpD.mono s p⟩
  | .dnn _, _, ⟨ys, e, h0, h⟩ => ⟨ys, e, h0, h.imp fun _ _ q => ⟨q.1, Rp.same s _ _ q.2.1, RpD.mono s p q.2.2⟩⟩
/-- the slots -/
def RpS (K : PySem.W.Frag) (cs : List Cn) (c : CS) (ds : DSt) (σ : L2.St) : Prop := ds.length = σ.length ∧ ∀ (i : Nat) (d : D), ds[i]? = some (some d) → ∃ v, σ[i]? = some (some v) ∧ RpD K cs c.F c.ρ d v
theorem RpS.step {c c' : CS} {M M' : Mem} {ds : DSt} {σ : L2.St} (h : RpS K cs c ds σ) (s : Step c M c' M') : RpS K cs c' ds σ :=
  ⟨h.1, fun i d e => let ⟨v, h1, h2⟩ := h.2 i d e; ⟨v, h1, h2.mono s.same s.pre⟩⟩
theorem RpS.set {c : CS} {ds : DSt} {σ : L2.St} (h : RpS K cs c ds σ) {i : Nat} {d : D} {v : V} (r : RpD K cs c.F c.ρ d v) : RpS K cs c (ds.set i (some d)) (σ.set i (some v)) := by
  refine ⟨by simpa using h.1, fun j e q => ?_⟩
  by_cases hj : i = j
  · subst hj
    have hl : i < ds.length := by
      have := (List.getElem?_eq_some_iff.mp q).1
      simpa using this
    rw [List.getElem?_set_self hl] at q
    cases q
    exact ⟨v, List.getElem?_set_self (by rw [← h.1]; exact hl), r⟩
  · rw [List.getElem?_set_ne hj] at q
    rw [List.getElem?_set_ne hj]
    exact h.2 j e q
theorem RpS.wipe1 {c : CS} {ds : DSt} {σ : L2.St} (h : RpS K cs c ds σ) (i : Nat) : RpS K cs c (ds.set i none) (σ.set i none) := by
  refine ⟨by simpa using h.1, fun j e q => ?_⟩
  by_cases hj : i = j
  · subst hj
    have hl : i < ds.length := by
      have := (List.getElem?_eq_some_iff.mp q).1
      simpa using this
    rw [List.getElem?_set_self hl] at q
    cases q
  · rw [List.getElem?_set_ne hj] at q
    rw [List.getElem?_set_ne hj]
    exact h.2 j e q
/-- an error as it lies -/
def RpX (K : PySem.W.Frag) (cs : List Cn) (c : CS) (e : DErr) (cls : Value) (d : Option Addr) : Prop := cls = .ref (ga K e.c.str) ∧ match e.xs with
  | [] => d = none
  | xs => ∃ dd vs, d = some dd ∧ c.F dd = some (.xd ((e.c.flds.map Fd.str).zip vs)) ∧ RpL K cs c.F xs vs
/-! ### moves -/
theorem Rel.fresh {c : CS} {M : Mem} (r : Rel K cs c M) {p : Addr} (h : c.H p = none) : c.F p = none ∧ p ∉ c.ρ :=
  ⟨r.same.free h, fun m => r.isin p m h⟩
theorem Rel.nlive {c : CS} {M : Mem} (r : Rel K cs c M) {p : Addr} (h : c.H p = none) : ¬ Live c.ρ M p := fun ⟨i, x, e, _⟩ => (r.fresh h).2 (List.mem_of_getElem? e)
/-- a new object, frozen at once -/
theorem Rel.lay {c : CS} {M : Mem} (r : Rel K cs c M) {p : Addr} (h : c.H p = none) (o : HO) : Rel K cs ⟨upd c.F p o, c.ρ, upd c.H p o⟩ M ∧ Step c M ⟨upd c.F p o, c.ρ, upd c.H p o⟩ M := by
  obtain ⟨hF, hρ⟩ := r.fresh h
  have sF : Same c.F (upd c.F p o) := same_upd hF
  refine ⟨⟨fun b u e => ?_, r.len, r.nd, fun a m => ?_, fun i a x e q => ?_⟩, ⟨sF, List.prefix_refl _, fun a u h1 h2 h3 => ?_⟩⟩
  · try dsimp only at *
    by_cases hb : b = p
    · rw [hb] at e ⊢
      rw [upd_same] at e
      rw [upd_same]
      exact e
    · rw [upd_ne hb] at e
      rw [upd_ne hb]
      exact r.same b u e
  · try dsimp only at *
    have hne : a ≠ p := fun q => hρ (q ▸ m)
    rw [upd_ne hne]
    exact r.isin a m
  · try dsimp only at *
    have hne : a ≠ p := fun q => hρ (q ▸ List.mem_of_getElem? e)
    obtain ⟨h1, u, h2, h3⟩ := r.live i a x e q
    refine ⟨by rw [upd_ne hne]; exact h1, u, by rw [upd_ne hne]; exact h2, h3.mono sF (List.prefix_refl _)⟩
  · try dsimp only at *
    have hne : a ≠ p := fun q => by rw [q, h] at h1; cases h1
    exact ⟨by rw [upd_ne hne]; exact h1, by rw [upd_ne hne]; exact h2, h3⟩
/-- a new object beside all (not frozen, no cell) -/
theorem Rel.beside {c : CS} {M : Mem} (r : Rel K cs c M) {p : Addr} (h : c.H p = none) (o : HO) : Rel K cs ⟨c.F, c.ρ, upd c.H p o⟩ M ∧ Step c M ⟨c.F, c.ρ, upd c.H p o⟩ M := by
  obtain ⟨hF, hρ⟩ := r.fresh h
  refine ⟨⟨r.same.trans (same_upd h), r.len, r.nd, fun a m => ?_, fun i a x e q => ?_⟩, ⟨Same.refl _, List.prefix_refl _, fun a u h1 h2 h3 => ?_⟩⟩
  · try dsimp only at *
    have hne : a ≠ p := fun q => hρ (q ▸ m)
    rw [upd_ne hne]
    exact r.isin a m
  · try dsimp only at *
    have hne : a ≠ p := fun q => hρ (q ▸ List.mem_of_getElem? e)
    obtain ⟨h1, u, h2, h3⟩ := r.live i a x e q
    exact ⟨h1, u, by rw [upd_ne hne]; exact h2, h3⟩
  · try dsimp only at *
    have hne : a ≠ p := fun q => by rw [q, h] at h1; cases h1
    exact ⟨by rw [upd_ne hne]; exact h1, h2, h3⟩
/-- an object beside all is changed -/
theorem Rel.beside_set {c : CS} {M : Mem} (r : Rel K cs c M) {p : Addr} {u : HO} (h : c.H p = some u) (hF : c.F p = none) (hl : ¬ Live c.ρ M p) (o : HO) : Rel K cs ⟨c.F, c.ρ, upd c.H p o⟩ M := by
  refine ⟨fun b v e => ?_, r.len, r.nd, fun a m => ?_, fun i a x e q => ?_⟩
  · try dsimp only at *
    have hne : b ≠ p := fun q => by rw [q, hF] at e; cases e
    rw [upd_ne hne]
    exact r.same b v e
  · try dsimp only at *
    by_cases hb : a = p
    · rw [hb, upd_same]
      exact fun z => by cases z
    · rw [upd_ne hb]
      exact r.isin a m
  · try dsimp only at *
    have hne : a ≠ p := fun z => hl ⟨i, x, z ▸ e, q⟩
    obtain ⟨h1, v, h2, h3⟩ := r.live i a x e q
    exact ⟨h1, v, by rw [upd_ne hne]; exact h2, h3⟩
/-- .. and frozen -/
theorem Rel.beside_lay {c : CS} {M : Mem} (r : Rel K cs c M) {p : Addr} {o : HO} (h : c.H p = some o) (hF : c.F p = none) (hl : ¬ Live c.ρ M p) : Rel K cs ⟨upd c.F p o, c.ρ, c.H⟩ M := by
  have sF : Same c.F (upd c.F p o) := same_upd hF
  refine ⟨fun b v e => ?_, r.len, r.nd, r.isin, fun i a x e q => ?_⟩
  · try dsimp only at *
    by_cases hb : b = p
    · rw [hb] at e ⊢
      rw [upd_same] at e
      cases e
      exact h
    · rw [upd_ne hb] at e
      exact r.same b v e
  · try dsimp only at *
    have hne : a ≠ p := fun z => hl ⟨i, x, z ▸ e, q⟩
    obtain ⟨h1, v, h2, h3⟩ := r.live i a x e q
    exact ⟨by rw [upd_ne hne]; exact h1, v, h2, h3.mono sF (List.prefix_refl _)⟩
/-- a new cell -/
theorem Rel.newc {c : CS} {M : Mem} (r : Rel K cs c M) {p : Addr} (h : c.H p = none) {o : HO} {x : Cell} (q : RpC K cs c.F c.ρ p x o) : Rel K cs ⟨c.F, c.ρ ++ [p], upd c.H p o⟩ (M ++ [some x]) ∧ Step c M ⟨c.F, c.ρ ++ [p], upd c.H p o⟩ (M ++ [some x]) := by
  obtain ⟨hF, hρ⟩ := r.fresh h
  have pr : c.ρ <+: c.ρ ++ [p] := List.prefix_append _ _
  have key : ∀ (i : Nat) (a : Addr) (y : Cell), (c.ρ ++ [p])[i]? = some a → (M ++ [some x])[i]? = some (some y) → (c.ρ[i]? = some a ∧ M[i]? = some (some y)) ∨ (a = p ∧ y = x) := fun i a y e e' => by
    by_cases hi : i < c.ρ.length
    · rw [List.getElem?_append_left hi] at e
      rw [List.getElem?_append_left (by rw [← r.len]; exact hi)] at e'
      exact .inl ⟨e, e'⟩
    · rw [List.getElem?_append_right (by omega)] at e
      rw [List.getElem?_append_right (by rw [← r.len]; omega), ← r.len] at e'
      have h0 : i - c.ρ.length = 0 := by
        have := (List.getElem?_eq_some_iff.mp e).1
        simp at this
        omega
      rw [h0] at e e'
      simp at e e'
      exact .inr ⟨e.symm, e'.symm⟩
  refine ⟨⟨r.same.trans (same_upd h), by simp [r.len], ?_, fun a m => ?_, fun i a y e e' => ?_⟩, ⟨Same.refl _, pr, fun a u h1 h2 h3 => ?_⟩⟩
  · try dsimp only at *
    rw [List.nodup_append]
    refine ⟨r.nd, by simp, fun a ha b hb e => ?_⟩
    simp at hb
    subst hb e
    exact hρ ha
  · try dsimp only at *
    by_cases hb : a = p
    · rw [hb, upd_same]
      exact fun z => by cases z
    · rw [upd_ne hb]
      rcases List.mem_append.mp m with m | m
      · exact r.isin a m
      · simp at m
        exact absurd m hb
  · try dsimp only at *
    rcases key i a y e e' with ⟨e1, e2⟩ | ⟨rfl, rfl⟩
    · obtain ⟨h1, u, h2, h3⟩ := r.live i a y e1 e2
      have hne : a ≠ p := fun z => hρ (z ▸ List.mem_of_getElem? e1)
      exact ⟨h1, u, by rw [upd_ne hne]; exact h2, h3.mono (Same.refl _) pr⟩
    · exact ⟨hF, o, upd_same, q.mono (Same.refl _) pr⟩
  · try dsimp only at *
    have hne : a ≠ p := fun q => by rw [q, h] at h1; cases h1
    refine ⟨by rw [upd_ne hne]; exact h1, h2, fun ⟨i, y, e, e'⟩ => ?_⟩
    rcases key i a y e e' with ⟨e1, e2⟩ | ⟨rfl, rfl⟩
    · exact h3 ⟨i, y, e1, e2⟩
    · exact hne rfl
/-- a cell is written -/
theorem Rel.setc {c : CS} {M : Mem} (r : Rel K cs c M) {i : Nat} {a : Addr} {x y : Cell} {o : HO} (e : c.ρ[i]? = some a) (m : M[i]? = some (some x)) (q : RpC K cs c.F c.ρ a y o) : Rel K cs ⟨c.F, c.ρ, upd c.H a o⟩ (M.set i (some y)) ∧ Step c M ⟨c.F, c.ρ, upd c.H a o⟩ (M.set i (some y)) := by
  obtain ⟨hF, u, hH, hq⟩ := r.live i a x e m
  have hiM : i < M.length := (List.getElem?_eq_some_iff.mp m).1
  refine ⟨⟨fun b v h => ?_, by simp [r.len], r.nd, fun b hb => ?_, fun j b z e' m' => ?_⟩, ⟨Same.refl _, List.prefix_refl _, fun b v h1 h2 h3 => ?_⟩⟩
  · try dsimp only at *
    have hne : b ≠ a := fun z => by rw [z, hF] at h; cases h
    rw [upd_ne hne]
    exact r.same b v h
  · try dsimp only at *
    by_cases hb' : b = a
    · rw [hb', upd_same]
      exact fun z => by cases z
    · rw [upd_ne hb']
      exact r.isin b hb
  · try dsimp only at *
    by_cases hj : i = j
    · subst hj
      have : a = b := Option.some.inj (e.symm.trans e')
      subst this
      rw [List.getElem?_set_self hiM] at m'
      cases m'
      exact ⟨hF, o, upd_same, q⟩
    · rw [List.getElem?_set_ne hj] at m'
      obtain ⟨h1, w, h2, h3⟩ := r.live j b z e' m'
      have hne : b ≠ a := fun q => by
        subst q
        obtain ⟨h4, e4⟩ := List.getElem?_eq_some_iff.mp e
        obtain ⟨h5, e5⟩ := List.getElem?_eq_some_iff.mp e'
        exact hj ((List.getElem_inj r.nd).mp (e4.trans e5.symm))
      exact ⟨h1, w, by rw [upd_ne hne]; exact h2, h3⟩
  · try dsimp only at *
    have hne : b ≠ a := fun z => h3 ⟨i, x, z ▸ e, m⟩
    refine ⟨by rw [upd_ne hne]; exact h1, h2, fun ⟨j, z, e', m'⟩ => ?_⟩
    by_cases hj : i = j
    · subst hj
      exact hne (Option.some.inj (e'.symm.trans e))
    · rw [List.getElem?_set_ne hj] at m'
      exact h3 ⟨j, z, e', m'⟩
/-- a cell is frozen -/
theorem Rel.freeze {c : CS} {M : Mem} (r : Rel K cs c M) {i : Nat} {a : Addr} {x : Cell} (e : c.ρ[i]? = some a) (m : M[i]? = some (some x)) : ∃ o, c.H a = some o ∧ RpC K cs c.F c.ρ a x o ∧ c.F a = none ∧ Rel K cs ⟨upd c.F a o, c.ρ, c.H⟩ (M.set i none) ∧ Step c M ⟨upd c.F a o, c.ρ, c.H⟩ (M.set i none) := by
  obtain ⟨hF, o, hH, hq⟩ := r.live i a x e m
  have hiM : i < M.length := (List.getElem?_eq_some_iff.mp m).1
  have sF : Same c.F (upd c.F a o) := same_upd hF
  refine ⟨o, hH, hq, hF, ⟨fun b v h => ?_, by simp [r.len], r.nd, r.isin, fun j b z e' m' => ?_⟩, ⟨sF, List.prefix_refl _, fun b v h1 h2 h3 => ?_⟩⟩
  · try dsimp only at *
    by_cases hb : b = a
    · rw [hb] at h ⊢
      rw [upd_same] at h
      cases h
      exact hH
    · rw [upd_ne hb] at h
      exact r.same b v h
  · try dsimp only at *
    by_cases hj : i = j
    · subst hj
      rw [List.getElem?_set_self hiM] at m'
      cases m'
    · rw [List.getElem?_set_ne hj] at m'
      obtain ⟨h1, w, h2, h3⟩ := r.live j b z e' m'
      have hne : b ≠ a := fun q => by
        subst q
        obtain ⟨h4, e4⟩ := List.getElem?_eq_some_iff.mp e
        obtain ⟨h5, e5⟩ := List.getElem?_eq_some_iff.mp e'
        exact hj ((List.getElem_inj r.nd).mp (e4.trans e5.symm))
      exact ⟨by rw [upd_ne hne]; exact h1, w, h2, h3.mono sF (List.prefix_refl _)⟩
  · try dsimp only at *
    have hne : b ≠ a := fun z => h3 ⟨i, x, z ▸ e, m⟩
    refine ⟨h1, by rw [upd_ne hne]; exact h2, fun ⟨j, z, e', m'⟩ => ?_⟩
    by_cases hj : i = j
    · subst hj
      rw [List.getElem?_set_self hiM] at m'
      cases m'
    · rw [List.getElem?_set_ne hj] at m'
      exact h3 ⟨j, z, e', m'⟩
/-- data alone in a cell -/
def pures : List D → Option (List PV)
  | [] => some []
  | .v x :: r => (pures r).map (x :: ·)
  | .cell _ :: _ => none
  | .exn _ :: _ => none
theorem pures_map (xs : List PV) : pures (xs.map D.v) = some xs := by
  induction xs with
  | nil => rfl
  | cons x r ih =>
    show (pures (r.map D.v)).map (x :: ·) = _
    rw [ih]
    rfl
theorem pures_eq : ∀ {ds : List D} {xs : List PV}, pures ds = some xs → ds = xs.map D.v
  | [], xs, h => by cases h; rfl
  | .v x :: r, xs, h => by
    cases q : pures r with
    | none =>
      have : (pures r).map (x :: ·) = some xs := h
      rw [q] at this
      cases this
    | some ys =>
      have : (pures r).map (x :: ·) = some xs := h
      rw [q] at this
      cases this
      rw [pures_eq q]
      rfl
  | .cell _ :: _, xs, h => by cases h
  | .exn _ :: _, xs, h => by cases h
theorem A2.pure {ρ : List Addr} : ∀ {xs : List PV} {vs : List V}, A2 (RpD K cs F ρ) (xs.map D.v) vs → RpL K cs F xs vs
  | [], _, h => by cases h; exact (rfl : ([] : List V) = [])
  | x :: xs, _, h => by
    cases h with
    | cons r t => exact ⟨_, _, rfl, r, A2.pure t⟩
theorem RpL.ds {ρ : List Addr} : ∀ {xs : List PV} {vs : List V}, RpL K cs F xs vs → A2 (RpD K cs F ρ) (xs.map D.v) vs
  | [], _, h => by cases (show _ = [] from h); exact .nil
  | x :: xs, _, ⟨v, ws, e, h1, h2⟩ => by cases e; exact .cons h1 (RpL.ds h2)
/-- cells at the end are forgotten -/
def Cell.low (n : Nat) : Cell → Prop
  | .lst ds | .obj _ ds | .tpl ds => ∀ i, D.cell i ∈ ds → i < n
  | .dct ds => ∀ k i, (k, D.cell i) ∈ ds → i < n
  | .dtt ds => ∀ k i, (k, D.cell i) ∈ ds → i < n
  | .dnn es => ∀ k z i, (k, z, D.cell i) ∈ es → i < n
theorem RpD.low {ρ : List Addr} {n : Nat} {d : D} {v : V} (h : RpD K cs F ρ d v) (hl : ∀ i, d = .cell i → i < n) : RpD K cs F (ρ.take n) d v := by
  cases d with
  | v x => exact h
  | cell i =>
    obtain ⟨a, e, q⟩ := h
    exact ⟨a, by rw [List.getElem?_take_of_lt (hl i rfl)]; exact e, q⟩
  | exn a => exact h
theorem A2.impM {α β : Type} {R S : α → β → Prop} : ∀ {as : List α} {bs : List β}, A2 R as bs → (∀ a ∈ as, ∀ b, R a b → S a b) → A2 S as bs
  | _, _, .nil, _ => .nil
  | _, _, .cons r t, f => .cons (f _ List.mem_cons_self _ r) (t.impM fun a m => f a (List.mem_cons_of_mem _ m))
theorem RpC.low {ρ : List Addr} {n : Nat} {a : Addr} : ∀ {x : Cell} {o : HO}, RpC K cs F ρ a x o → x.low n → RpC K cs F (ρ.take n) a x o
  | .lst _, _, ⟨vs, e, h⟩, l => ⟨vs, e, h.impM fun d m v r => r.low fun i q => l i (q ▸ m)⟩
  | .obj _ _, _, ⟨dx, vs, e, h1, h3, h2⟩, l => ⟨dx, vs, e, h1, h3, h2.impM fun d m v r => r.low fun i q => l i (q ▸ m)⟩
  | .dct _, _, ⟨vs, e, h⟩, l => ⟨vs, e, h.impM fun d m v r => ⟨r.1, r.2.low fun i q => l d.1 i (by rw [← q]; exact m)⟩⟩
  | .dtt _, _, ⟨vs, e, h⟩, l => ⟨vs, e, h.impM fun d m v r => ⟨r.1, r.2.low fun i q => l d.1 i (by rw [← q]; exact m)⟩⟩
  | .tpl _, _, ⟨vs, e, h⟩, l => ⟨vs, e, h.impM fun d m v r => r.low fun i q => l i (q ▸ m)⟩
  | .dnn _, _, ⟨vs, e, h0, h⟩, l => ⟨vs, e, h0, h.impM fun d m v r => ⟨r.1, r.2.1, r.2.2.low fun i q => l d.1 d.2.1 i (by rw [← q]; exact m)⟩⟩
theorem RpC.low_of {ρ : List Addr} {a : Addr} : ∀ {x : Cell} {o : HO}, RpC K cs F ρ a x o → x.low ρ.length := by
  have key : ∀ {ds : List D} {vs : List V}, A2 (RpD K cs F ρ) ds vs → ∀ i, D.cell i ∈ ds → i < ρ.length := by
    intro ds vs h
    induction h with
    | nil => intro i m; cases m
    | cons r t ih =>
      intro i m
      rcases List.mem_cons.mp m with e | m
      · subst e
        obtain ⟨a, e, _⟩ := r
        exact (List.getElem?_eq_some_iff.mp e).1
      · exact ih i m
  have keyK : ∀ {κ : Type} {ds : List (κ × D)} {vs : List (κ × V)}, A2 (RpKD K cs F ρ) ds vs → ∀ k i, (k, D.cell i) ∈ ds → i < ρ.length := by
    intro κ ds vs h
    induction h with
    | nil => intro k i m; cases m
    | cons r t ih =>
      intro k i m
      rcases List.mem_cons.mp m with e | m
      · obtain ⟨_, r⟩ := r
        rw [← e] at r
        obtain ⟨a, e, _⟩ := r
        exact (List.getElem?_eq_some_iff.mp e).1
      · exact ih k i m
  intro x o h
  cases x with
  | lst ds => obtain ⟨vs, e, h⟩ := h; exact key h
  | obj c ds => obtain ⟨dx, vs, e, h1, h3, h⟩ := h; exact key h
  | dct ds => obtain ⟨vs, e, h⟩ := h; exact keyK h
  | dtt ds => obtain ⟨vs, e, h⟩ := h; exact keyK h
  | tpl ds => obtain ⟨vs, e, h⟩ := h; exact key h
  | dnn es =>
    obtain ⟨ys, e, h0, h⟩ := h
    intro k z i m
    have keyN : ∀ {es : List (PV × Int × D)} {ys : List (Int × Addr × V)}, A2 (RpN K cs F ρ) es ys → ∀ k z i, (k, z, D.cell i) ∈ es → i < ρ.length := by
      intro es ys h
      induction h with
      | nil => intro k z i m; cases m
      | cons r t ih =>
        intro k z i m
        rcases List.mem_cons.mp m with e | m
        · obtain ⟨_, _, r⟩ := r
          rw [← e] at r
          obtain ⟨b, e, _⟩ := r
          exact (List.getElem?_eq_some_iff.mp e).1
        · exact ih k z i m
    exact keyN h k z i m
/-- the cells that were there at M hold what they held, or data -/
def Exit (M M' : Mem) : Prop := M.length ≤ M'.length ∧ ∀ (i : Nat) (x : Cell), i < M.length → M'[i]? = some (some x) → M[i]? = some (some x) ∨ x.low M.length
theorem Rel.cut {c c' : CS} {M M' : Mem} (r : Rel K cs c M) (r' : Rel K cs c' M') (s : Step c M c' M') (ex : Exit M M') : Rel K cs ⟨c'.F, c'.ρ.take M.length, c'.H⟩ (M'.take M.length) ∧ Step c M ⟨c'.F, c'.ρ.take M.length, c'.H⟩ (M'.take M.length) ∧ c'.ρ.take M.length = c.ρ := by
  have eρ : c'.ρ.take M.length = c.ρ := by
    obtain ⟨t, e⟩ := s.pre
    rw [← e, ← r.len, List.take_left']
    rfl
  have hlen : M.length ≤ c'.ρ.length := by rw [r'.len]; exact ex.1
  refine ⟨⟨r'.same, ?_, ?_, fun a m => r'.isin a (List.mem_of_mem_take m), fun i a x e m => ?_⟩, ⟨s.same, by show c.ρ <+: c'.ρ.take M.length; rw [eρ]; exact List.prefix_refl _, fun a o h1 h2 h3 => ?_⟩, eρ⟩
  · show (c'.ρ.take M.length).length = (M'.take M.length).length
    rw [List.length_take, List.length_take, r'.len]
  · exact r'.nd.sublist (List.take_sublist _ _)
  · have hi : i < M.length := by
      have h := (List.getElem?_eq_some_iff.mp m).1
      rw [List.length_take] at h
      omega
    have e1 : c'.ρ[i]? = some a := by
      have : (c'.ρ.take M.length)[i]? = some a := e
      rw [List.getElem?_take_of_lt hi] at this
      exact this
    have m1 : M'[i]? = some (some x) := by
      rw [List.getElem?_take_of_lt hi] at m
      exact m
    obtain ⟨h1, o, h2, h3⟩ := r'.live i a x e1 m1
    refine ⟨h1, o, h2, ?_⟩
    show RpC K cs c'.F (c'.ρ.take M.length) a x o
    rcases ex.2 i x hi m1 with q | q
    · have e0 : c.ρ[i]? = some a := by
        have : (c'.ρ.take M.length)[i]? = some a := e
        rw [eρ] at this
        exact this
      obtain ⟨_, o', _, h5⟩ := r.live i a x e0 q
      have hl := h5.low_of
      rw [r.len] at hl
      exact h3.low hl
    · exact h3.low q
  · obtain ⟨g1, g2, g3⟩ := s.frame a o h1 h2 h3
    refine ⟨g1, g2, fun ⟨i, x, e, m⟩ => g3 ⟨i, x, ?_, ?_⟩⟩
    · exact List.mem_of_getElem? e |> fun _ => by
        have hi : i < M.length := by
          have h := (List.getElem?_eq_some_iff.mp m).1
          rw [List.length_take] at h
          omega
        have : (c'.ρ.take M.length)[i]? = some a := e
        rw [List.getElem?_take_of_lt hi] at this
        exact this
    · have hi : i < M.length := by
        have h := (List.getElem?_eq_some_iff.mp m).1
        rw [List.length_take] at h
        omega
      rw [List.getElem?_take_of_lt hi] at m
      exact m
end
end Cl
/-! Own layer: dicts whose keys are nested tuples. -/
namespace Cl
open PySem PySem.Spec PyProof.Rows L2 He ClX
mutual
def nkD : PyData → NestedKey
  | .none => .none
  | .bool b => .num (if b = true then 1 else 0)
  | .int i => .num i
  | .str x => .text x
  | .tuple ds => .tup (nkDs ds)
  | .list _ => .none
  | .dict _ => .none
def nkDs : List PyData → List NestedKey
  | [] => []
  | d :: ds => nkD d :: nkDs ds
end
mutual
def isKD : PyData → Bool
  | .none => true
  | .bool _ => true
  | .int _ => true
  | .str _ => true
  | .tuple ds => isKDs ds
  | .list _ => false
  | .dict _ => false
def isKDs : List PyData → Bool
  | [] => true
  | d :: ds => isKD d && isKDs ds
end
section
variable {X : Cx} {pins : List (Addr × Obj)} {σ : L2.St} {H : Hp} {s : Shared}
mutual
theorem Dp.nest (I : Inv X pins σ H s) : ∀ (d : PyData) (v : V) (u : Value), Dp X.K H v d → isKD d = true → RelV v u → NestedIs s.heap (nkD d) u
  | .none, _, _, h, _, r => by cases h; cases r; exact .none
  | .bool b, _, _, h, _, r => by cases h; cases r; exact .bool rfl
  | .int i, _, _, h, _, r => by cases h; obtain ⟨t, rfl⟩ := r; exact .int _ _
  | .str x, _, _, h, _, r => by cases h; obtain ⟨t, rfl⟩ := r; exact .text _ _
  | .list ds, _, _, _, k, _ => by cases k
  | .tuple ds, _, _, h, k, r => by
    cases h with
    | tup hs ha =>
      cases r
      obtain ⟨its, rv, ⟨o, ho, hc, n, hd⟩, _⟩ := I.tuple hs
      exact .tup ho hc hd (by simpa using Dp.nestAll I ds _ its ha k rv)
  | .dict _, _, _, h, _, _ => by cases h
theorem Dp.nestAll (I : Inv X pins σ H s) : ∀ (ds : List PyData) (vs : List V) (us : List Value), DpAll X.K H vs ds → isKDs ds = true → Vals vs us → NestedAll s.heap (nkDs ds) us
  | [], _, _, h, _, r => by cases h; cases r; exact .nil
  | d :: ds, _, _, h, k, r => by
    have k' : (isKD d && isKDs ds) = true := k
    rw [Bool.and_eq_true] at k'
    cases h with
    | cons h1 h2 =>
      cases r with
      | cons r1 r2 => exact .cons (Dp.nest I d _ _ h1 k'.1 r1) (Dp.nestAll I ds _ _ h2 k'.2 r2)
end
end
/-- the tuple at p is the key d -/
def NKey (K : PySem.W.Frag) (H : Hp) (d : PyData) (p : Addr) : Prop := Dp K H (.ref p) d ∧ isKD d = true ∧ (nkD d).depth ≤ 8
/-- the dict at a: keys, raw entries -/
structure NDict (w : World) (K : PySem.W.Frag) (H : Hp) (a : Addr) (ks : List PyData) (ys : List (Int × Addr × V)) : Prop where
  at_ : H a = some (.ext (DnO a ys))
  sys : (a == sysModules) = false
  len : ys.length ≤ sizeLine
  nd : (ks.map nkD).Nodup
  rel : A2 (fun k (y : Int × Addr × V) => y.1 = (nkD k).hash w ∧ NKey K H k y.2.1) ks ys
section
variable {X : Cx} {pins : List (Addr × Obj)} {σ : L2.St} {H : Hp} {s : Shared} {a p : Addr} {d : PyData} {ks : List PyData} {ys : List (Int × Addr × V)} {A : Around} {E : Value → Shared → Prop}
theorem NKey.is (I : Inv X pins σ H s) (h : NKey X.K H d p) : (nestedKind X.prog X.w).is s.heap (nkD d) p := ⟨Dp.nest I d _ _ h.1 h.2.1 rfl, h.2.2⟩
abbrev XRel (k : PyData) (y : Int × Addr × V) (x : NestedKey × Addr × Value) : Prop := x.1 = nkD k ∧ x.2.1 = y.2.1 ∧ RelV y.2.2 x.2.2
theorem NDict.dict (I : Inv X pins σ H s) (h : NDict X.w X.K H a ks ys) : ∃ xs : List (NestedKey × Addr × Value), s.heap.DictOfH (nestedKind X.prog X.w) a xs ∧ xs.length = ys.length ∧ xs.map (·.1) = ks.map nkD ∧ ∀ (i : Nat) (k : PyData) (y : Int × Addr × V), ks[i]? = some k → ys[i]? = some y → ∃ x, xs[i]? = some x ∧ XRel k y x := by
  have ob := I.hok a _ h.at_
  obtain ⟨⟨o, ep, ens, h1, h2, h3, h4⟩, _, _⟩ := ob
  have key : ∀ (ks : List PyData) (ys : List (Int × Addr × V)) (es : List DictEntry), A2 (fun k (y : Int × Addr × V) => y.1 = (nkD k).hash X.w ∧ NKey X.K H k y.2.1) ks ys → A2 (fun (y : Int × Addr × V) (en : DictEntry) => en.hash = y.1 ∧ en.key = .ref y.2.1 ∧ RelV y.2.2 en.val) ys es →
      ∃ xs : List (NestedKey × Addr × Value), es = xs.map (entryOfKey (nestedKind X.prog X.w)) ∧ (∀ x ∈ xs, (nestedKind X.prog X.w).is s.heap x.1 x.2.1) ∧ xs.length = ys.length ∧ xs.map (·.1) = ks.map nkD ∧ ∀ (i : Nat) (k : PyData) (y : Int × Addr × V), ks[i]? = some k → ys[i]? = some y → ∃ x, xs[i]? = some x ∧ XRel k y x := by
    intro ks ys es r1 r2
    induction r1 generalizing es with
    | nil =>
      cases r2
      exact ⟨[], rfl, (fun _ h => nomatch h), rfl, rfl, fun i k y e => by simp at e⟩
    | @cons k y ks ys q t ih =>
      cases r2 with
      | @cons _ en _ es q2 t2 =>
        obtain ⟨xs, g1, g2, g3, g4, g5⟩ := ih es t2
        refine ⟨(nkD k, y.2.1, en.val) :: xs, ?_, fun x hx => ?_, by rw [List.length_cons, List.length_cons, g3], by rw [List.map_cons, List.map_cons, g4], fun i k' y' e1 e2 => ?_⟩
        · rw [List.map_cons, ← g1]
          congr 1
          obtain ⟨e1, e2, _⟩ := q2
          obtain ⟨eh, ek, ev⟩ := en
          show DictEntry.mk eh ek ev = _
          rw [show eh = y.1 from e1, show ek = .ref y.2.1 from e2, q.1]
          rfl
        · rcases List.mem_cons.mp hx with rfl | hx
          · exact q.2.is I
          · exact g2 x hx
        · cases i with
          | zero => cases e1; cases e2; exact ⟨_, rfl, rfl, rfl, q2.2.2⟩
          | succ i => exact g5 i k' y' (by simpa using e1) (by simpa using e2)
  obtain ⟨xs, g1, g2, g3, g4, g5⟩ := key ks ys ens.toList h.rel h4
  exact ⟨xs, ⟨o, ens, ep, h1, h2, h3, g1, g2, by rw [g4]; exact h.nd⟩, g3, g4, g5⟩
end
end Cl
/-! The layer of values, part 2: readings over data, and that they are followed by the readings over the heap. -/
namespace Cl
open PySem PySem.Spec PyProof.Rows L2 He ClX
abbrev DQ := D → Mem → Prop
abbrev DE := DSt → Mem → DQ → Prop
abbrev DT := DSt → Mem → (Bool → Mem → Prop) → Prop
abbrev DA := DSt → Mem → (List D → Mem → Prop) → Prop
structure DEnds where
  nx : DSt → Mem → Prop
  rt : DQ
  bk : DSt → Mem → Prop := fun _ _ => False
  ct : DSt → Mem → Prop := fun _ _ => False
abbrev DS := DEnds → DSt → Mem → Prop
abbrev DG := D → DSt → Mem → (DSt → Mem → Prop) → Prop
abbrev DGs := List D → DSt → Mem → (DSt → Mem → Prop) → Prop
abbrev DI := DSt → Mem → (List D → Mem → Prop) → Prop
abbrev DO := DSt → Mem → (Option Int → Mem → Prop) → Prop
abbrev DX := DErr → Mem → Prop
abbrev DSp := List D → Mem → DQ → DX → Prop
abbrev DR2 := D → D → Mem → DQ → Prop
abbrev DR := List D → Mem → DQ → Prop
abbrev DM := D → List D → Mem → DQ → Prop
/-- where a def stands: the facts, its entry -/
structure Sc where
  K : PySem.W.Frag
  cs : List Cn
  c0 : CS
  M0 : Mem
structure Sc.Ok (S : Sc) (c : CS) (M : Mem) : Prop where
  st : Step S.c0 S.M0 c M
  rl : Rel S.K S.cs c M
theorem Sc.Ok.step {S : Sc} {c c' : CS} {M M' : Mem} (h : S.Ok c M) (s : Step c M c' M') (r : Rel S.K S.cs c' M') : S.Ok c' M' := ⟨h.st.trans s, r⟩
def PoE (S : Sc) (c : CS) (M : Mem) (Qd : DQ) (Q : VK) : Prop := ∀ c' M' v d, Step c M c' M' → Rel S.K S.cs c' M' → RpD S.K S.cs c'.F c'.ρ d v → Qd d M' → Q v c'.H
def PoT (S : Sc) (c : CS) (M : Mem) (Qd : Bool → Mem → Prop) (Q : Bool → Hp → Prop) : Prop := ∀ c' M' b, Step c M c' M' → Rel S.K S.cs c' M' → Qd b M' → Q b c'.H
def PoA (S : Sc) (c : CS) (M : Mem) (Qd : List D → Mem → Prop) (Q : List V → Hp → Prop) : Prop := ∀ c' M' vs ds, Step c M c' M' → Rel S.K S.cs c' M' → A2 (RpD S.K S.cs c'.F c'.ρ) ds vs → Qd ds M' → Q vs c'.H
def PoS (S : Sc) (c : CS) (M : Mem) (Qd : DSt → Mem → Prop) (Q : L2.St → Hp → Prop) : Prop := ∀ c' M' σ' ds', Step c M c' M' → Rel S.K S.cs c' M' → RpS S.K S.cs c' ds' σ' → Qd ds' M' → Q σ' c'.H
def PoX (S : Sc) (c : CS) (M : Mem) (Qd : DX) (Q : XK) : Prop := ∀ c' M' cls d e, Step c M c' M' → Rel S.K S.cs c' M' → RpX S.K S.cs c' e cls d → Qd e M' → Q cls d c'.H
theorem PoE.step {S : Sc} {c c1 : CS} {M M1 : Mem} {Qd : DQ} {Q : VK} (h : PoE S c M Qd Q) (s : Step c M c1 M1) : PoE S c1 M1 Qd Q := fun c' M' v d s' => h c' M' v d (s.trans s')
theorem PoT.step {S : Sc} {c c1 : CS} {M M1 : Mem} {Qd : Bool → Mem → Prop} {Q : Bool → Hp → Prop} (h : PoT S c M Qd Q) (s : Step c M c1 M1) : PoT S c1 M1 Qd Q := fun c' M' v s' => h c' M' v (s.trans s')
theorem PoA.step {S : Sc} {c c1 : CS} {M M1 : Mem} {Qd : List D → Mem → Prop} {Q : List V → Hp → Prop} (h : PoA S c M Qd Q) (s : Step c M c1 M1) : PoA S c1 M1 Qd Q := fun c' M' v d s' => h c' M' v d (s.trans s')
theorem PoS.step {S : Sc} {c c1 : CS} {M M1 : Mem} {Qd : DSt → Mem → Prop} {Q : L2.St → Hp → Prop} (h : PoS S c M Qd Q) (s : Step c M c1 M1) : PoS S c1 M1 Qd Q := fun c' M' v d s' => h c' M' v d (s.trans s')
theorem PoX.step {S : Sc} {c c1 : CS} {M M1 : Mem} {Qd : DX} {Q : XK} (h : PoX S c M Qd Q) (s : Step c M c1 M1) : PoX S c1 M1 Qd Q := fun c' M' v d e s' => h c' M' v d e (s.trans s')
structure PoD (S : Sc) (c : CS) (M : Mem) (Dd : DEnds) (D' : Ends) : Prop where
  nx : PoS S c M Dd.nx D'.nx
  rt : PoE S c M Dd.rt D'.rt
  bk : PoS S c M Dd.bk D'.bk
  ct : PoS S c M Dd.ct D'.ct
theorem PoD.step {S : Sc} {c c1 : CS} {M M1 : Mem} {Qd : DEnds} {Q : Ends} (h : PoD S c M Qd Q) (s : Step c M c1 M1) : PoD S c1 M1 Qd Q := ⟨h.nx.step s, h.rt.step s, h.bk.step s, h.ct.step s⟩
abbrev Sc.St (S : Sc) (c : CS) (ds : DSt) (σ : L2.St) : Prop := RpS S.K S.cs c ds σ
abbrev Sc.Vd (S : Sc) (c : CS) (d : D) (v : V) : Prop := RpD S.K S.cs c.F c.ρ d v
abbrev Sc.Ld (S : Sc) (c : CS) (ds : List D) (vs : List V) : Prop := A2 (RpD S.K S.cs c.F c.ρ) ds vs
theorem Sc.Vd.step {S : Sc} {c c' : CS} {M M' : Mem} {d : D} {v : V} (h : S.Vd c d v) (s : Step c M c' M') : S.Vd c' d v := RpD.mono s.same s.pre h
theorem Sc.Ld.step {S : Sc} {c c' : CS} {M M' : Mem} {d : List D} {v : List V} (h : S.Ld c d v) (s : Step c M c' M') : S.Ld c' d v := h.imp fun _ _ r => RpD.mono s.same s.pre r
def SimE (S : Sc) (te : TE) (de : DE) : Prop := ∀ c M σ ds Q Qd, S.Ok c M → S.St c ds σ → de ds M Qd → PoE S c M Qd Q → te σ c.H Q
def SimT (S : Sc) (te : TT) (de : DT) : Prop := ∀ c M σ ds Q Qd, S.Ok c M → S.St c ds σ → de ds M Qd → PoT S c M Qd Q → te σ c.H Q
def SimA (S : Sc) (te : TA) (de : DA) : Prop := ∀ c M σ ds Q Qd, S.Ok c M → S.St c ds σ → de ds M Qd → PoA S c M Qd Q → te σ c.H Q
def SimS (S : Sc) (te : TS) (de : DS) : Prop := ∀ c M σ ds D' Dd, S.Ok c M → S.St c ds σ → de Dd ds M → PoD S c M Dd D' → te D' σ c.H
def SimG (S : Sc) (g : TG) (dg : DG) : Prop := ∀ c M σ ds x v Q Qd, S.Ok c M → S.St c ds σ → S.Vd c x v → dg x ds M Qd → PoS S c M Qd Q → g v σ c.H Q
def SimO (S : Sc) (r : R2) (dr : DR2) : Prop := ∀ c M x y dx dy Q Qd, S.Ok c M → S.Vd c dx x → S.Vd c dy y → dr dx dy M Qd → PoE S c M Qd Q → r x y c.H Q
def SimU (S : Sc) (r : V → Hp → VK → Prop) (dr : D → Mem → DQ → Prop) : Prop := ∀ c M x dx Q Qd, S.Ok c M → S.Vd c dx x → dr dx M Qd → PoE S c M Qd Q → r x c.H Q
def SimR (S : Sc) (r : List V → Hp → VK → Prop) (dr : DR) : Prop := ∀ c M vs ds Q Qd, S.Ok c M → S.Ld c ds vs → dr ds M Qd → PoE S c M Qd Q → r vs c.H Q
def SimM (S : Sc) (r : V → List V → Hp → VK → Prop) (dr : DM) : Prop := ∀ c M x dx vs ds Q Qd, S.Ok c M → S.Vd c dx x → S.Ld c ds vs → dr dx ds M Qd → PoE S c M Qd Q → r x vs c.H Q
def SimP (S : Sc) (t : TO) (d : DO) : Prop := ∀ c M σ ds Q Qd, S.Ok c M → S.St c ds σ → d ds M Qd → (∀ c' M' o, Step c M c' M' → Rel S.K S.cs c' M' → Qd o M' → Q o c'.H) → t σ c.H Q
def SimL (S : Sc) (r : V → Option Int → Option Int → Hp → VK → Prop) (dr : D → Option Int → Option Int → Mem → DQ → Prop) : Prop := ∀ c M x dx lo hi Q Qd, S.Ok c M → S.Vd c dx x → dr dx lo hi M Qd → PoE S c M Qd Q → r x lo hi c.H Q
/-- the walk over J gives xs -/
def Wk (S : Sc) (c : CS) (J : It) (xs : List D) : Prop := ∀ (i : Nat) c' M', Same c.F c'.F → c.ρ <+: c'.ρ → Rel S.K S.cs c' M' → (xs.length = i → J.stop i c'.H) ∧ ∀ d, xs[i]? = some d → J.go i c'.H ∧ ∀ x H', J.yld i c'.H x H' → ∃ c'', c''.H = H' ∧ Step c' M' c'' M' ∧ Rel S.K S.cs c'' M' ∧ S.Vd c'' d x
def SimI (S : Sc) (t : TI) (d : DI) : Prop := ∀ c M σ ds R Rd, S.Ok c M → S.St c ds σ → d ds M Rd → (∀ c' M' J xs, Step c M c' M' → Rel S.K S.cs c' M' → Wk S c' J xs → Rd xs M' → R J c'.H) → t σ c.H R
/-! ### readings -/
def dVar (i : Nat) : DE := fun ds M Q => ∃ d, ds[i]? = some (some d) ∧ Q d M
def dC (x : PV) : DE := fun _ M Q => Q (.v x) M
def dOp (r : DR2) (a b : DE) : DE := fun ds M Q => a ds M fun x M1 => b ds M1 fun y M2 => r x y M2 Q
def dUn (r : D → Mem → DQ → Prop) (a : DE) : DE := fun ds M Q => a ds M fun x M1 => r x M1 Q
def dNil : DA := fun _ M Q => Q [] M
def dCons (a : DE) (r : DA) : DA := fun ds M Q => a ds M fun x M1 => r ds M1 fun xs M2 => Q (x :: xs) M2
def dCB (r : DR) (a : DA) : DE := fun ds M Q => a ds M fun xs M1 => r xs M1 Q
def dTest (a : DE) : DT := fun ds M Q => a ds M fun x M1 => ∃ k, x = .v (.bl k) ∧ Q k M1
def dNot (t : DT) : DT := fun ds M Q => t ds M fun b M1 => Q (!b) M1
def dAnd (t u : DT) : DT := fun ds M Q => t ds M fun b M1 => if b = true then u ds M1 Q else Q false M1
def dOr (t u : DT) : DT := fun ds M Q => t ds M fun b M1 => if b = true then Q true M1 else u ds M1 Q
def dAndV (a b : DE) : DE := fun ds M Q => a ds M fun x M1 => ∃ k, x = .v (.bl k) ∧ if k = true then b ds M1 Q else Q (.v (.bl false)) M1
def dOrV (a b : DE) : DE := fun ds M Q => a ds M fun x M1 => ∃ k, x = .v (.bl k) ∧ if k = true then Q (.v (.bl true)) M1 else b ds M1 Q
def dNotV (a : DE) : DE := fun ds M Q => a ds M fun x M1 => ∃ k, x = .v (.bl k) ∧ Q (.v (.bl (!k))) M1
def dIf (t : DT) (a b : DE) : DE := fun ds M Q => t ds M fun k M1 => if k = true then a ds M1 Q else b ds M1 Q
def dNext : DS := fun E ds M => E.nx ds M
def dSeq (t u : DS) : DS := fun E ds M => ∃ N : DSt → Mem → Prop, t { E with nx := N } ds M ∧ ∀ ds' M', N ds' M' → u E ds' M'
/-- .. where ways join again -/
def dCut (t u : DS) : DS := dSeq t u
def dDrop (a : DE) : DS := fun E ds M => a ds M fun _ M1 => E.nx ds M1
def dRet (a : DE) : DS := fun E ds M => a ds M E.rt
def dIfS (t : DT) (a b : DS) : DS := fun E ds M => t ds M fun k M1 => if k = true then a E ds M1 else b E ds M1
def dAsg (a : DE) (g : DG) : DS := fun E ds M => a ds M fun x M1 => g x ds M1 E.nx
def hName (i : Nat) : DG := fun x ds M Q => Q (ds.set i (some x)) M
def hNil : DGs := fun xs ds M Q => xs = [] ∧ Q ds M
def hCons (g : DG) (r : DGs) : DGs := fun xs ds M Q => ∃ x ys, xs = x :: ys ∧ g x ds M fun ds' M' => r ys ds' M' Q
def hTup (n : Nat) (r : DGs) : DG := fun x ds M Q => ∃ ys, x = .v (.tup ys) ∧ ys.length = n ∧ r (ys.map D.v) ds M Q
def dNoPart : DO := fun _ M Q => Q none M
def dPart (a : DE) : DO := fun ds M Q => a ds M fun x M1 => ∃ i, x = .v (.int i) ∧ Q (some i) M1
def dSl (r : D → Option Int → Option Int → Mem → DQ → Prop) (a : DE) (l h : DO) : DE := fun ds M Q => a ds M fun x M1 => l ds M1 fun lo M2 => h ds M2 fun hi M3 => r x lo hi M3 Q
section
variable {S : Sc}
variable {te ta tb : TE} {da db de : DE} {tt tu : TT} {dt du : DT} {tr : TA} {dr : DA} {ts us : TS} {dss dus : DS}
theorem sim_var {i : Nat} : SimE S (tVar i) (dVar i) := fun c M σ ds Q Qd ok rs ⟨d, e, q⟩ po => let ⟨v, h1, h2⟩ := rs.2 i d e; ⟨v, h1, po c M v d (Step.refl _ _) ok.rl h2 q⟩
theorem sim_c {v : V} {x : PV} (h : ∀ F, Rp S.K S.cs F x v) : SimE S (tC v) (dC x) := fun c M σ ds Q Qd ok rs q po => po c M v (.v x) (Step.refl _ _) ok.rl (h c.F) q
theorem sim_op {r : R2} {d : DR2} (hr : SimO S r d) (ha : SimE S ta da) (hb : SimE S tb db) : SimE S (tOp r ta tb) (dOp d da db) := fun c M σ ds Q Qd ok rs q po =>
  ha c M σ ds _ _ ok rs q fun c1 M1 v1 d1 s1 r1 p1 q1 => hb c1 M1 σ ds _ _ (ok.step s1 r1) (rs.step s1) q1 fun c2 M2 v2 d2 s2 r2 p2 q2 =>
    hr c2 M2 v1 v2 d1 d2 _ _ ((ok.step s1 r1).step s2 r2) (Sc.Vd.step p1 s2) p2 q2 (po.step (s1.trans s2))
theorem sim_un {r : V → Hp → VK → Prop} {d : D → Mem → DQ → Prop} (hr : SimU S r d) (ha : SimE S ta da) : SimE S (tUn r ta) (dUn d da) := fun c M σ ds Q Qd ok rs q po =>
  ha c M σ ds _ _ ok rs q fun c1 M1 v1 d1 s1 r1 p1 q1 => hr c1 M1 v1 d1 _ _ (ok.step s1 r1) p1 q1 (po.step s1)
theorem sim_nil : SimA S tNil dNil := fun c M σ ds Q Qd ok rs q po => po c M [] [] (Step.refl _ _) ok.rl .nil q
theorem sim_cons (ha : SimE S ta da) (hr : SimA S tr dr) : SimA S (tCons ta tr) (dCons da dr) := fun c M σ ds Q Qd ok rs q po =>
  ha c M σ ds _ _ ok rs q fun c1 M1 v1 d1 s1 r1 p1 q1 => hr c1 M1 σ ds _ _ (ok.step s1 r1) (rs.step s1) q1 fun c2 M2 v2 d2 s2 r2 p2 q2 =>
    po c2 M2 _ _ (s1.trans s2) r2 (.cons (Sc.Vd.step p1 s2) p2) q2
theorem sim_cb {r : List V → Hp → VK → Prop} {d : DR} (hr : SimR S r d) (ha : SimA S tr dr) : SimE S (tCB r tr) (dCB d dr) := fun c M σ ds Q Qd ok rs q po =>
  ha c M σ ds _ _ ok rs q fun c1 M1 v1 d1 s1 r1 p1 q1 => hr c1 M1 v1 d1 _ _ (ok.step s1 r1) p1 q1 (po.step s1)
theorem sim_test (ha : SimE S ta da) : SimT S (tTest ta) (dTest da) := fun c M σ ds Q Qd ok rs q po =>
  ha c M σ ds _ _ ok rs q fun c1 M1 v1 d1 s1 r1 p1 ⟨k, e, q1⟩ => by
    subst e
    cases (show v1 = .bl k from p1)
    exact ⟨k, rfl, po c1 M1 k s1 r1 q1⟩
theorem sim_not (ha : SimT S tt dt) : SimT S (tNot tt) (dNot dt) := fun c M σ ds Q Qd ok rs q po =>
  ha c M σ ds _ _ ok rs q fun c1 M1 b s1 r1 q1 => po c1 M1 _ s1 r1 q1
theorem sim_and (ha : SimT S tt dt) (hb : SimT S tu du) : SimT S (tAnd tt tu) (dAnd dt du) := fun c M σ ds Q Qd ok rs q po =>
  ha c M σ ds _ _ ok rs q fun c1 M1 b s1 r1 q1 => by
    cases b with
    | true => exact hb c1 M1 σ ds _ _ (ok.step s1 r1) (rs.step s1) q1 (po.step s1)
    | false => exact po c1 M1 false s1 r1 q1
theorem sim_or (ha : SimT S tt dt) (hb : SimT S tu du) : SimT S (tOr tt tu) (dOr dt du) := fun c M σ ds Q Qd ok rs q po =>
  ha c M σ ds _ _ ok rs q fun c1 M1 b s1 r1 q1 => by
    cases b with
    | true => exact po c1 M1 true s1 r1 q1
    | false => exact hb c1 M1 σ ds _ _ (ok.step s1 r1) (rs.step s1) q1 (po.step s1)
theorem sim_andV (ha : SimE S ta da) (hb : SimE S tb db) : SimE S (tAndV ta tb) (dAndV da db) := fun c M σ ds Q Qd ok rs q po =>
  ha c M σ ds _ _ ok rs q fun c1 M1 v1 d1 s1 r1 p1 ⟨k, e, q1⟩ => by
    subst e
    cases (show v1 = .bl k from p1)
    refine ⟨k, rfl, ?_⟩
    cases k with
    | true => exact hb c1 M1 σ ds _ _ (ok.step s1 r1) (rs.step s1) q1 (po.step s1)
    | false => exact po c1 M1 _ (.v (.bl false)) s1 r1 rfl q1
theorem sim_notV (ha : SimE S ta da) : SimE S (tNotV ta) (dNotV da) := fun c M σ ds Q Qd ok rs q po =>
  ha c M σ ds _ _ ok rs q fun c1 M1 v1 d1 s1 r1 p1 ⟨k, e, q1⟩ => by
    subst e
    cases (show v1 = .bl k from p1)
    exact ⟨k, rfl, po c1 M1 _ (.v (.bl (!k))) s1 r1 rfl q1⟩
theorem sim_if (hc : SimT S tt dt) (ha : SimE S ta da) (hb : SimE S tb db) : SimE S (tIf tt ta tb) (dIf dt da db) := fun c M σ ds Q Qd ok rs q po =>
  hc c M σ ds _ _ ok rs q fun c1 M1 b s1 r1 q1 => by
    cases b with
    | true => exact ha c1 M1 σ ds _ _ (ok.step s1 r1) (rs.step s1) q1 (po.step s1)
    | false => exact hb c1 M1 σ ds _ _ (ok.step s1 r1) (rs.step s1) q1 (po.step s1)
/-! ### statements -/
theorem sim_next : SimS S tNext dNext := fun c M σ ds E Ed ok rs q po => po.nx c M σ ds (Step.refl _ _) ok.rl rs q
theorem sim_seq (ha : SimS S ts dss) (hb : SimS S us dus) : SimS S (tSeq ts us) (dSeq dss dus) := fun c M σ ds E Ed ok rs ⟨N, q, k⟩ po =>
  ha c M σ ds _ _ ok rs q ⟨fun c1 M1 σ1 ds1 s1 r1 p1 q1 => hb c1 M1 σ1 ds1 _ _ (ok.step s1 r1) p1 (k _ _ q1) (po.step s1), po.rt, po.bk, po.ct⟩
theorem sim_cut (ha : SimS S ts dss) (hb : SimS S us dus) : SimS S (tSeq ts us) (dCut dss dus) := sim_seq ha hb
theorem sim_drop (ha : SimE S ta da) : SimS S (tDrop ta) (dDrop da) := fun c M σ ds E Ed ok rs q po =>
  ha c M σ ds _ _ ok rs q fun c1 M1 v1 d1 s1 r1 p1 q1 => po.nx c1 M1 σ ds s1 r1 (rs.step s1) q1
theorem sim_ret (ha : SimE S ta da) : SimS S (tRet ta) (dRet da) := fun c M σ ds E Ed ok rs q po => ha c M σ ds _ _ ok rs q po.rt
theorem sim_ifS (hc : SimT S tt dt) (ha : SimS S ts dss) (hb : SimS S us dus) : SimS S (tIfS tt ts us) (dIfS dt dss dus) := fun c M σ ds E Ed ok rs q po =>
  hc c M σ ds _ _ ok rs q fun c1 M1 b s1 r1 q1 => by
    cases b with
    | true => exact ha c1 M1 σ ds _ _ (ok.step s1 r1) (rs.step s1) q1 (po.step s1)
    | false => exact hb c1 M1 σ ds _ _ (ok.step s1 r1) (rs.step s1) q1 (po.step s1)
theorem sim_asg {g : TG} {dg : DG} (ha : SimE S ta da) (hg : SimG S g dg) : SimS S (tAsg ta g) (dAsg da dg) := fun c M σ ds E Ed ok rs q po =>
  ha c M σ ds _ _ ok rs q fun c1 M1 v1 d1 s1 r1 p1 q1 => hg c1 M1 σ ds d1 v1 _ _ (ok.step s1 r1) (rs.step s1) p1 q1 (po.nx.step s1)
theorem sim_gname {i : Nat} : SimG S (gName i) (hName i) := fun c M σ ds x v Q Qd ok rs rv q po => po c M _ _ (Step.refl _ _) ok.rl (rs.set rv) q
theorem sim_nopart : SimP S tNoPart dNoPart := fun c M σ ds Q Qd ok rs q po => po c M none (Step.refl _ _) ok.rl q
theorem sim_part (ha : SimE S ta da) : SimP S (tPart ta) (dPart da) := fun c M σ ds Q Qd ok rs q po =>
  ha c M σ ds _ _ ok rs q fun c1 M1 v1 d1 s1 r1 p1 ⟨i, e, q1⟩ => by
    subst e
    exact ⟨i, p1, po c1 M1 _ s1 r1 q1⟩
theorem sim_sl {r : V → Option Int → Option Int → Hp → VK → Prop} {d : D → Option Int → Option Int → Mem → DQ → Prop} {tl th : TO} {dl dh : DO} (hr : SimL S r d) (ha : SimE S ta da) (hl : SimP S tl dl) (hh : SimP S th dh) : SimE S (tSl r ta tl th) (dSl d da dl dh) := fun c M σ ds Q Qd ok rs q po =>
  ha c M σ ds _ _ ok rs q fun c1 M1 v1 d1 s1 r1 p1 q1 => hl c1 M1 σ ds _ _ (ok.step s1 r1) (rs.step s1) q1 fun c2 M2 o2 s2 r2 q2 => hh c2 M2 σ ds _ _ ((ok.step s1 r1).step s2 r2) ((rs.step s1).step s2) q2 fun c3 M3 o3 s3 r3 q3 =>
    hr c3 M3 v1 d1 _ _ _ _ (((ok.step s1 r1).step s2 r2).step s3 r3) (Sc.Vd.step (Sc.Vd.step p1 s2) s3) q3 (po.step ((s1.trans s2).trans s3))
/-! ### loops -/
def dLoop (g : DG) (b : DS) (E : DEnds) : List D → DSt → Mem → Prop
  | [], ds, M => E.nx ds M
  | x :: xs, ds, M => g x ds M fun ds2 M2 => b { E with nx := dLoop g b E xs, ct := dLoop g b E xs, bk := E.nx } ds2 M2
def dFor (it : DI) (g : DG) (b : DS) : DS := fun E ds M => it ds M fun xs M1 => dLoop g b E xs ds M1
theorem sim_for {ti : TI} {di : DI} {g : TG} {dg : DG} (hi : SimI S ti di) (hg : SimG S g dg) (hb : SimS S ts dss) : SimS S (tFor ti g ts) (dFor di dg dss) := fun c M σ ds E Ed ok rs q po =>
  hi c M σ ds _ _ ok rs q fun c1 M1 J xs s1 r1 wk q1 => by
    refine ⟨fun i m σ' H' => ∃ c2 M2 ds2, c2.H = H' ∧ m = xs.length - i ∧ i ≤ xs.length ∧ Step c1 M1 c2 M2 ∧ Rel S.K S.cs c2 M2 ∧ S.St c2 ds2 σ' ∧ dLoop dg dss Ed (xs.drop i) ds2 M2, ⟨xs.length, c1, M1, ds, rfl, rfl, Nat.zero_le _, Step.refl _ _, r1, rs.step s1, q1⟩, ?_⟩
    rintro i m σ' H' ⟨c2, M2, ds2, rfl, rfl, hi, s2, r2, p2, q2⟩
    obtain ⟨w1, w2⟩ := wk i c2 M2 s2.same s2.pre r2
    by_cases hlt : i < xs.length
    · obtain ⟨g1, g2⟩ := w2 xs[i] (by simp [hlt])
      rw [List.drop_eq_getElem_cons hlt] at q2
      refine Or.inr ⟨g1, fun σ'' H'' => ∃ c3 M3 ds3, c3.H = H'' ∧ Step c1 M1 c3 M3 ∧ Rel S.K S.cs c3 M3 ∧ S.St c3 ds3 σ'' ∧ dLoop dg dss Ed (xs.drop (i + 1)) ds3 M3, fun σ'' H'' ⟨c3, M3, ds3, e, s3, r3, p3, q3⟩ => ⟨xs.length - (i + 1), by omega, c3, M3, ds3, e, rfl, hlt, s3, r3, p3, q3⟩, fun x H'' hy => ?_⟩
      obtain ⟨c3, rfl, s3, r3, p3⟩ := g2 x H'' hy
      have ok2 := (ok.step s1 r1).step s2 r2
      refine hg c3 M2 σ' ds2 _ _ _ _ (ok2.step s3 r3) (p2.step s3) p3 q2 fun c4 M4 σ4 ds4 s4 r4 p4 q4 => ?_
      have st : Step c1 M1 c4 M4 := s2.trans (s3.trans s4)
      have ps : PoS S c4 M4 (dLoop dg dss Ed (xs.drop (i + 1))) (fun σ'' H'' => ∃ c3 M3 ds3, c3.H = H'' ∧ Step c1 M1 c3 M3 ∧ Rel S.K S.cs c3 M3 ∧ S.St c3 ds3 σ'' ∧ dLoop dg dss Ed (xs.drop (i + 1)) ds3 M3) := fun c5 M5 σ5 ds5 s5 r5 p5 q5 => ⟨c5, M5, ds5, rfl, st.trans s5, r5, p5, q5⟩
      have po4 := po.step (s1.trans st)
      exact hb c4 M4 σ4 ds4 _ _ ((ok2.step s3 r3).step s4 r4) p4 q4 ⟨ps, po4.rt, po4.nx, ps⟩
    · have e : xs.length = i := by omega
      rw [← e, List.drop_length] at q2
      exact Or.inl ⟨w1 e, po.nx c2 M2 σ' ds2 (s1.trans s2) r2 p2 q2⟩
/-! ### what is walked -/
def jStr (a : DE) : DI := fun ds M R => a ds M fun x M1 => ∃ z, x = .v (.str z) ∧ R (z.map fun c => D.v (.str [c])) M1
def jLst (a : DE) : DI := fun ds M R => a ds M fun x M1 => ∃ xs, x = .v (.lst xs) ∧ R (xs.map D.v) M1
def jTup (a : DE) : DI := fun ds M R => a ds M fun x M1 => ∃ xs, x = .v (.tup xs) ∧ R (xs.map D.v) M1
def jRng1 (a : DA) : DI := fun ds M R => a ds M fun xs M1 => ∃ j : Int, xs = [.v (.int j)] ∧ -(2 ^ 62) ≤ j ∧ j < 2 ^ 62 ∧ R ((List.range j.toNat).map fun (k : Nat) => D.v (.int k)) M1
def jRng2 (a : DA) : DI := fun ds M R => a ds M fun xs M1 => ∃ i j : Int, xs = [.v (.int i), .v (.int j)] ∧ (-(2 ^ 62) ≤ i ∧ i < 2 ^ 62 ∧ -(2 ^ 62) ≤ j ∧ j < 2 ^ 62) ∧ R ((List.range (j - i).toNat).map fun (k : Nat) => D.v (.int (i + k))) M1
theorem wk_same {c : CS} {J : It} {n : Nat} {G : Hp → Prop} {Y : Nat → Hp → V → Hp → Prop} (w : Walk J n G Y) {xs : List D} (hn : n = xs.length) (hG : ∀ c' : CS, Same c.F c'.F → Same c'.F c'.H → G c'.H) (hy : ∀ i d x H H', xs[i]? = some d → Y i H x H' → H' = H ∧ S.Vd c d x) : Wk S c J xs := by
  intro i c' M' s p r
  subst hn
  have g := hG c' s r.same
  refine ⟨fun e => by subst e; exact w.stops _ g, fun d e => ?_⟩
  have hi := (List.getElem?_eq_some_iff.mp e).1
  refine ⟨w.goes i _ hi g, fun x H' y => ?_⟩
  obtain ⟨e1, e2⟩ := hy i d x _ _ e (w.yields i _ x H' hi g y)
  exact ⟨c', e1.symm, Step.refl _ _, r, RpD.mono s p e2⟩
theorem sim_istr (ha : SimE S ta da) : SimI S (iStr ta) (jStr da) := fun c M σ ds R Rd ok rs q po =>
  ha c M σ ds _ _ ok rs q fun c1 M1 v1 d1 s1 r1 p1 ⟨z, e, q1⟩ => by
    subst e
    cases (show v1 = sv z from p1)
    refine ⟨_, rfl, po c1 M1 _ _ s1 r1 (wk_same walk_str (by simp) (fun _ _ _ => trivial) fun i d x H H' hd hy => ?_) q1⟩
    obtain ⟨e, c, hc, rfl⟩ := hy
    refine ⟨e, ?_⟩
    rw [List.getElem?_map] at hd
    have hzc : z[i]? = some c := by simpa using hc
    rw [hzc] at hd
    cases hd
    rfl
theorem sim_ilst (ha : SimE S ta da) : SimI S (iList S.K ta) (jLst da) := fun c M σ ds R Rd ok rs q po =>
  ha c M σ ds _ _ ok rs q fun c1 M1 v1 d1 s1 r1 p1 ⟨z, e, q1⟩ => by
    subst e
    obtain ⟨a, vs, rfl, h1, h2⟩ := p1
    refine ⟨a, rfl, ⟨vs, sq_of (r1.same _ _ h1)⟩, po c1 M1 _ _ s1 r1 (wk_same walk_list (xs := z.map D.v) (by rw [List.length_map, h2.len]) (fun c' s1 s2 => sq_of (s2 _ _ (s1 _ _ h1))) fun i d x H H' hd hy => ?_) q1⟩
    obtain ⟨e, hx⟩ := hy
    refine ⟨e, ?_⟩
    obtain ⟨v, e1, e2⟩ := (RpL.ds h2).get hd
    rw [hx] at e1
    cases e1
    exact e2
theorem rng_get {n i : Nat} {f : Nat → D} {d : D} (h : ((List.range n).map f)[i]? = some d) : d = f i := by
  rw [List.getElem?_map] at h
  cases q : (List.range n)[i]? with
  | none => rw [q] at h; cases h
  | some k =>
    rw [q] at h
    cases h
    have := List.getElem?_eq_some_iff.mp q
    obtain ⟨h1, h2⟩ := this
    rw [List.getElem_range] at h2
    rw [h2]
theorem sim_irng1 (ha : SimA S tr dr) : SimI S (iRng1 tr) (jRng1 dr) := fun c M σ ds R Rd ok rs q po =>
  ha c M σ ds _ _ ok rs q fun c1 M1 v1 d1 s1 r1 p1 ⟨j, e, h1, h2, q1⟩ => by
    subst e
    obtain ⟨v, rfl, e⟩ : ∃ v, v1 = [v] ∧ v = V.int j := by
      cases p1 with
      | cons r t => cases t; exact ⟨_, rfl, r⟩
    subst e
    refine ⟨j, rfl, h1, h2, po c1 M1 _ _ s1 r1 (wk_same walk_range (by simp) (fun _ _ _ => trivial) fun i d x H H' hd hy => ?_) q1⟩
    obtain ⟨e, rfl⟩ := hy
    refine ⟨e, ?_⟩
    rw [rng_get hd]
    show V.int (0 + i) = V.int i
    rw [Int.zero_add]
end
end Cl
/-! The layer of values, part 3: operators. -/
namespace Cl
open PySem PySem.Spec PyProof.Rows L2 He ClX
/-- the items of a list: data, or in a cell -/
def lsOf (M : Mem) : D → Option (List D)
  | .v (.lst xs) => some (xs.map D.v)
  | .cell i => (match M[i]? with
    | some (some (.lst ds)) => some ds
    | _ => none)
  | _ => none
def sqOf (M : Mem) : D → Option (List D)
  | .v (.lst xs) => some (xs.map D.v)
  | .v (.tup xs) => some (xs.map D.v)
  | .cell i => (match M[i]? with
    | some (some (.lst ds)) => some ds
    | _ => none)
  | _ => none
section
variable {S : Sc}
theorem ls_at {c : CS} {M : Mem} (ok : S.Ok c M) {d : D} {v : V} {ds : List D} (r : S.Vd c d v) (h : lsOf M d = some ds) : ∃ a vs, v = .ref a ∧ c.H a = some (.lst vs) ∧ S.Ld c ds vs := by
  cases d with
  | v x =>
    cases x with
    | lst xs =>
      cases h
      obtain ⟨a, vs, e, h1, h2⟩ := r
      exact ⟨a, vs, e, ok.rl.same _ _ h1, RpL.ds h2⟩
    | _ => cases h
  | cell i =>
    unfold lsOf at h
    dsimp only at h
    split at h
    · rename_i xs m
      cases h
      obtain ⟨a, e, rfl⟩ := r
      obtain ⟨h1, o, h2, vs, rfl, h3⟩ := ok.rl.live i a _ e m
      exact ⟨a, vs, rfl, h2, h3⟩
    · cases h
  | exn _ => cases h
theorem sq_at {c : CS} {M : Mem} (ok : S.Ok c M) {d : D} {v : V} {ds : List D} (r : S.Vd c d v) (h : sqOf M d = some ds) : ∃ a vs, v = .ref a ∧ (SqL S.K c.H a vs ∨ SqT S.K c.H a vs) ∧ S.Ld c ds vs := by
  cases d with
  | v x =>
    cases x with
    | lst xs =>
      cases h
      obtain ⟨a, vs, e, h1, h2⟩ := r
      exact ⟨a, vs, e, .inl (sq_of (ok.rl.same _ _ h1)), RpL.ds h2⟩
    | tup xs =>
      cases h
      obtain ⟨a, vs, e, h1, h2⟩ := r
      exact ⟨a, vs, e, .inr (Same.seqT ok.rl.same h1), RpL.ds h2⟩
    | _ => cases h
  | cell i =>
    unfold sqOf at h
    dsimp only at h
    split at h
    · rename_i xs m
      cases h
      obtain ⟨a, e, rfl⟩ := r
      obtain ⟨h1, o, h2, vs, rfl, h3⟩ := ok.rl.live i a _ e m
      exact ⟨a, vs, rfl, .inl (sq_of h2), h3⟩
    · cases h
  | exn _ => cases h
/-- a new frozen object -/
theorem po_lay {c : CS} {M : Mem} {Qd : DQ} {Q : VK} (ok : S.Ok c M) (po : PoE S c M Qd Q) {p : Addr} (hp : c.H p = none) {o : HO} {x : PV} (r : Rp S.K S.cs (upd c.F p o) x (.ref p)) (q : Qd (.v x) M) : Q (.ref p) (upd c.H p o) := by
  obtain ⟨r1, s1⟩ := ok.rl.lay hp o
  exact po ⟨upd c.F p o, c.ρ, upd c.H p o⟩ M _ (.v x) s1 r1 r q
theorem po_lst {c : CS} {M : Mem} {Qd : DQ} {Q : VK} (ok : S.Ok c M) (po : PoE S c M Qd Q) {p : Addr} (hp : c.H p = none) {vs : List V} {xs : List PV} (r : RpL S.K S.cs c.F xs vs) (q : Qd (.v (.lst xs)) M) : Q (.ref p) (upd c.H p (.lst vs)) :=
  po_lay (x := .lst xs) ok po hp ⟨p, vs, rfl, upd_same, RpL.same (same_upd (ok.rl.fresh hp).1) xs vs r⟩ q
theorem po_tup {c : CS} {M : Mem} {Qd : DQ} {Q : VK} (ok : S.Ok c M) (po : PoE S c M Qd Q) {p : Addr} (hp : c.H p = none) {vs : List V} {xs : List PV} (r : RpL S.K S.cs c.F xs vs) (q : Qd (.v (.tup xs)) M) : Q (.ref p) (upd c.H p (.tup vs)) :=
  po_lay (x := .tup xs) ok po hp ⟨p, vs, rfl, .inl (.inl upd_same), RpL.same (same_upd (ok.rl.fresh hp).1) xs vs r⟩ q
/-- .. as a cell -/
theorem po_lstC {c : CS} {M : Mem} {Qd : DQ} {Q : VK} (ok : S.Ok c M) (po : PoE S c M Qd Q) {p : Addr} (hp : c.H p = none) {vs : List V} {ds : List D} (r : S.Ld c ds vs) (q : Qd (.cell M.length) (M ++ [some (.lst ds)])) : Q (.ref p) (upd c.H p (.lst vs)) := by
  obtain ⟨r1, s1⟩ := ok.rl.newc hp (x := .lst ds) (o := .lst vs) ⟨vs, rfl, r⟩
  exact po ⟨c.F, c.ρ ++ [p], upd c.H p (.lst vs)⟩ _ _ (.cell M.length) s1 r1 ⟨p, by show (c.ρ ++ [p])[M.length]? = some p; rw [← ok.rl.len]; simp, rfl⟩ q
/-- nothing has changed -/
theorem po_v {c : CS} {M : Mem} {Qd : DQ} {Q : VK} (ok : S.Ok c M) (po : PoE S c M Qd Q) {v : V} {d : D} (r : S.Vd c d v) (q : Qd d M) : Q v c.H := po c M v d (Step.refl _ _) ok.rl r q
theorem ld_pure {c : CS} {ds : List D} {vs : List V} {xs : List PV} (r : S.Ld c ds vs) (h : pures ds = some xs) : RpL S.K S.cs c.F xs vs := by
  rw [pures_eq h] at r
  exact r.pure
/-! ### displays -/
def dTup (a : DA) : DE := fun ds M Q => a ds M fun ys M1 => ∃ xs, pures ys = some xs ∧ ys.length ≤ sizeLine ∧ Q (.v (.tup xs)) M1
def dLst (a : DA) : DE := fun ds M Q => a ds M fun ys M1 => ∃ xs, pures ys = some xs ∧ ys.length ≤ sizeLine ∧ Q (.v (.lst xs)) M1
def dLstC (a : DA) : DE := fun ds M Q => a ds M fun ys M1 => ys.length ≤ sizeLine ∧ Q (.cell M1.length) (M1 ++ [some (.lst ys)])
theorem sim_tup {tr : TA} {dr : DA} (ha : SimA S tr dr) : SimE S (tTup tr) (dTup dr) := fun c M σ ds Q Qd ok rs q po =>
  ha c M σ ds _ _ ok rs q fun c1 M1 v1 d1 s1 r1 p1 ⟨xs, e, hl, q1⟩ => ⟨by rw [← p1.len]; exact hl, fun p hp => po_tup (ok.step s1 r1) (po.step s1) hp (ld_pure p1 e) q1⟩
theorem sim_lst {tr : TA} {dr : DA} (ha : SimA S tr dr) : SimE S (tLst tr) (dLst dr) := fun c M σ ds Q Qd ok rs q po =>
  ha c M σ ds _ _ ok rs q fun c1 M1 v1 d1 s1 r1 p1 ⟨xs, e, hl, q1⟩ => ⟨by rw [← p1.len]; exact hl, fun p hp => po_lst (ok.step s1 r1) (po.step s1) hp (ld_pure p1 e) q1⟩
theorem sim_lstC {tr : TA} {dr : DA} (ha : SimA S tr dr) : SimE S (tLst tr) (dLstC dr) := fun c M σ ds Q Qd ok rs q po =>
  ha c M σ ds _ _ ok rs q fun c1 M1 v1 d1 s1 r1 p1 ⟨hl, q1⟩ => ⟨by rw [← p1.len]; exact hl, fun p hp => po_lstC (ok.step s1 r1) (po.step s1) hp p1 q1⟩
/-! ### + - * // % ** -/
abbrev vI (i : Int) : D := .v (.int i)
abbrev vB (b : Bool) : D := .v (.bl b)
abbrev vS (z : List Nat) : D := .v (.str z)
abbrev vL (xs : List PV) : D := .v (.lst xs)
abbrev vT (xs : List PV) : D := .v (.tup xs)
def uAdd : DR2 := fun x y M Q => (∃ i j, x = vI i ∧ y = vI j ∧ Q (vI (i + j)) M) ∨ (∃ a b, x = vS a ∧ y = vS b ∧ a.length + b.length ≤ sizeLine ∧ Q (vS (a ++ b)) M) ∨
  (∃ a b, x = vL a ∧ y = vL b ∧ a.length + b.length ≤ sizeLine ∧ Q (vL (a ++ b)) M)
theorem so_add : SimO S zAdd uAdd := fun c M x y dx dy Q Qd ok rx ry q po => by
  rcases q with ⟨i, j, rfl, rfl, q⟩ | ⟨a, b, rfl, rfl, h, q⟩ | ⟨a, b, rfl, rfl, h, q⟩
  · cases (show x = .int i from rx); cases (show y = .int j from ry)
    exact po_v ok po (d := vI (i + j)) rfl q
  · cases (show x = sv a from rx); cases (show y = sv b from ry)
    exact ⟨h, po_v ok po (d := vS (a ++ b)) rfl q⟩
  · obtain ⟨p, vs, e1, h1, r1⟩ := rx
    obtain ⟨p', vs', e2, h2, r2⟩ := ry
    cases e1; cases e2
    exact ⟨vs, vs', ok.rl.same _ _ h1, ok.rl.same _ _ h2, by rw [← r1.len, ← r2.len]; exact h, fun p hp => po_lst ok po hp (r1.a2.append r2.a2).rpL q⟩
def uSub : DR2 := fun x y M Q => ∃ i j, x = vI i ∧ y = vI j ∧ Q (vI (i - j)) M
theorem so_sub : SimO S zSub uSub := fun c M x y dx dy Q Qd ok rx ry q po => by
  obtain ⟨i, j, rfl, rfl, q⟩ := q
  cases (show x = .int i from rx); cases (show y = .int j from ry)
  exact po_v ok po (d := vI (i - j)) rfl q
theorem A2.rep {α β : Type} {R : α → β → Prop} {xs : List α} {vs : List β} (r : A2 R xs vs) : ∀ n : Nat, A2 R (List.replicate n xs).flatten (List.replicate n vs).flatten
  | 0 => .nil
  | n + 1 => by
    rw [List.replicate_succ, List.replicate_succ, List.flatten_cons, List.flatten_cons]
    exact r.append (A2.rep r n)
def uMul : DR2 := fun x y M Q => (∃ i j, x = vI i ∧ y = vI j ∧ CMul i j ∧ Q (vI (i * j)) M) ∨ (∃ a k, x = vS a ∧ y = vI k ∧ 0 ≤ k ∧ k ≤ 100000 ∧ a.length ≤ 100 ∧ Q (vS (rep a k.toNat)) M) ∨
  (∃ a k, x = vL a ∧ y = vI k ∧ -(2 ^ 63) ≤ k ∧ k < 2 ^ 63 ∧ a.length * k.toNat ≤ sizeLine ∧ Q (vL (List.replicate k.toNat a).flatten) M)
theorem so_mul : SimO S zMul uMul := fun c M x y dx dy Q Qd ok rx ry q po => by
  rcases q with ⟨i, j, rfl, rfl, h, q⟩ | ⟨a, k, rfl, rfl, q1, q2, q3, q⟩ | ⟨a, k, rfl, rfl, q1, q2, q3, q⟩
  · cases (show x = .int i from rx); cases (show y = .int j from ry)
    exact ⟨h, po_v ok po (d := vI (i * j)) rfl q⟩
  · cases (show x = sv a from rx); cases (show y = .int k from ry)
    exact ⟨q1, q2, q3, po_v ok po (d := vS (rep a k.toNat)) rfl q⟩
  · obtain ⟨p, vs, e1, h1, r1⟩ := rx
    cases e1; cases (show y = .int k from ry)
    exact ⟨vs, ok.rl.same _ _ h1, q1, q2, by rw [← r1.len]; exact q3, fun p hp => po_lst ok po hp (r1.a2.rep _).rpL q⟩
def uDiv : DR2 := fun x y M Q => ∃ i j, x = vI i ∧ y = vI j ∧ CDivW i j ∧ Q (vI (i / j)) M
theorem so_div : SimO S zDiv uDiv := fun c M x y dx dy Q Qd ok rx ry q po => by
  obtain ⟨i, j, rfl, rfl, h, q⟩ := q
  cases (show x = .int i from rx); cases (show y = .int j from ry)
  exact ⟨h, po_v ok po (d := vI (i / j)) rfl q⟩
def uMod : DR2 := fun x y M Q => ∃ i j, x = vI i ∧ y = vI j ∧ 0 < j ∧ Q (vI (i % j)) M
theorem so_mod : SimO S zMod uMod := fun c M x y dx dy Q Qd ok rx ry q po => by
  obtain ⟨i, j, rfl, rfl, h, q⟩ := q
  cases (show x = .int i from rx); cases (show y = .int j from ry)
  exact ⟨h, po_v ok po (d := vI (i % j)) rfl q⟩
def uPow : DR2 := fun x y M Q => ∃ i j, x = vI i ∧ y = vI j ∧ CPow i j ∧ Q (vI (i ^ j.toNat)) M
theorem so_pow : SimO S zPow uPow := fun c M x y dx dy Q Qd ok rx ry q po => by
  obtain ⟨i, j, rfl, rfl, h, q⟩ := q
  cases (show x = .int i from rx); cases (show y = .int j from ry)
  exact ⟨h, po_v ok po (d := vI (i ^ j.toNat)) rfl q⟩
def uNeg : D → Mem → DQ → Prop := fun x M Q => ∃ i, x = vI i ∧ Q (vI (-i)) M
theorem su_neg : SimU S zNeg uNeg := fun c M x dx Q Qd ok rx q po => by
  obtain ⟨i, rfl, q⟩ := q
  cases (show x = .int i from rx)
  exact po_v ok po (d := vI (-i)) rfl q
/-! ### < <= > >= -/
def uLt : DR2 := fun x y M Q => ∃ i j, x = vI i ∧ y = vI j ∧ Q (vB (decide (i < j))) M
theorem so_lt : SimO S zLt uLt := fun c M x y dx dy Q Qd ok rx ry q po => by
  obtain ⟨i, j, rfl, rfl, q⟩ := q
  cases (show x = .int i from rx); cases (show y = .int j from ry)
  exact po_v ok po (d := vB (decide (i < j))) rfl q
def uLe : DR2 := fun x y M Q => ∃ i j, x = vI i ∧ y = vI j ∧ Q (vB (decide (i ≤ j))) M
theorem so_le : SimO S zLe uLe := fun c M x y dx dy Q Qd ok rx ry q po => by
  obtain ⟨i, j, rfl, rfl, q⟩ := q
  cases (show x = .int i from rx); cases (show y = .int j from ry)
  exact po_v ok po (d := vB (decide (i ≤ j))) rfl q
def uGt : DR2 := fun x y M Q => ∃ i j, x = vI i ∧ y = vI j ∧ Q (vB (decide (j < i))) M
theorem so_gt : SimO S zGt uGt := fun c M x y dx dy Q Qd ok rx ry q po => by
  obtain ⟨i, j, rfl, rfl, q⟩ := q
  cases (show x = .int i from rx); cases (show y = .int j from ry)
  exact po_v ok po (d := vB (decide (j < i))) rfl q
def uGe : DR2 := fun x y M Q => ∃ i j, x = vI i ∧ y = vI j ∧ Q (vB (decide (j ≤ i))) M
theorem so_ge : SimO S zGe uGe := fun c M x y dx dy Q Qd ok rx ry q po => by
  obtain ⟨i, j, rfl, rfl, q⟩ := q
  cases (show x = .int i from rx); cases (show y = .int j from ry)
  exact po_v ok po (d := vB (decide (j ≤ i))) rfl q
/-! ### == != -/
def eqP : PV → PV → Option Bool
  | .non, .non => some true
  | .non, .int _ | .int _, .non | .non, .bl _ | .bl _, .non | .non, .str _ | .str _, .non | .int _, .str _ | .str _, .int _ | .bl _, .str _ | .str _, .bl _ => some false
  | .int i, .int j => some (decide (i = j))
  | .bl i, .bl j => some (decide (i = j))
  | .str a, .str b => some (decide (a = b))
  | _, _ => none
mutual
/-- data as the library has it -/
def pdat : PV → PyData
  | .bl b => .bool b
  | .int i => .int i
  | .str z => .str ⟨⟨z⟩⟩
  | .lst xs => .list (pdatL xs)
  | .tup xs => .tuple (pdatL xs)
  | _ => .none
def pdatL : List PV → List PyData
  | [] => []
  | x :: xs => pdat x :: pdatL xs
end
mutual
def isDat : PV → Bool
  | .non | .bl _ | .int _ | .str _ => true
  | .lst xs | .tup xs => isDatL xs
  | _ => false
def isDatL : List PV → Bool
  | [] => true
  | x :: xs => isDat x && isDatL xs
end
mutual
theorem Rp.dp {K : PySem.W.Frag} {cs : List Cn} {F H : Hp} (s : Same F H) : ∀ (x : PV) (v : V), isDat x = true → Rp K cs F x v → Dp K H v (pdat x)
  | .non, _, _, h => by cases (show _ = V.non from h); exact .non
  | .bl b, _, _, h => by cases (show _ = V.bl b from h); exact .bl b
  | .int i, _, _, h => by cases (show _ = V.int i from h); exact .int i
  | .str z, _, _, h => by cases (show _ = sv z from h); exact .str _
  | .lst xs, _, hd, ⟨a, vs, e, h1, h2⟩ => by cases e; exact .lst (sq_of (s _ _ h1)) (RpL.dp s xs vs hd h2)
  | .tup xs, _, hd, ⟨a, vs, e, h1, h2⟩ => by cases e; exact .tup (Same.seqT s h1) (RpL.dp s xs vs hd h2)
theorem RpL.dp {K : PySem.W.Frag} {cs : List Cn} {F H : Hp} (s : Same F H) : ∀ (xs : List PV) (vs : List V), isDatL xs = true → RpL K cs F xs vs → DpAll K H vs (pdatL xs)
  | [], _, _, h => by cases (show _ = [] from h); exact .nil
  | x :: xs, _, hd, ⟨v, ws, e, h1, h2⟩ => by
    cases e
    have hd' : (isDat x && isDatL xs) = true := hd
    rw [Bool.and_eq_true] at hd'
    exact .cons (Rp.dp s x v hd'.1 h1) (RpL.dp s xs ws hd'.2 h2)
end
theorem eqP_flat {x y : PV} {b : Bool} (h : eqP x y = some b) : (x = .non ∨ (∃ i, x = .bl i) ∨ (∃ i, x = .int i) ∨ ∃ z, x = .str z) ∧ (y = .non ∨ (∃ i, y = .bl i) ∨ (∃ i, y = .int i) ∨ ∃ z, y = .str z) := by
  unfold eqP at h
  split at h <;> first | (cases h; done) | exact ⟨by simp, by simp⟩
theorem eqP_eqB {K : PySem.W.Frag} {cs : List Cn} {F : Hp} {x y : PV} {v u : V} {b : Bool} (h : eqP x y = some b) (rx : Rp K cs F x v) (ry : Rp K cs F y u) : eqB v u = some b := by
  obtain ⟨h1, h2⟩ := eqP_flat h
  rcases h1 with rfl | ⟨i, rfl⟩ | ⟨i, rfl⟩ | ⟨i, rfl⟩ <;> rcases h2 with rfl | ⟨j, rfl⟩ | ⟨j, rfl⟩ | ⟨j, rfl⟩ <;> (cases (show v = _ from rx); cases (show u = _ from ry); exact h)
theorem rp_kind {K : PySem.W.Frag} {cs : List Cn} {F : Hp} {x : PV} {v : V} (hd : isDat x = true) (r : Rp K cs F x v) : (x = .non ∧ v = .non) ∨ (∃ i, x = .bl i ∧ v = .bl i) ∨ (∃ i, x = .int i ∧ v = .int i) ∨ (∃ z, x = .str z ∧ v = sv z) ∨ ((∃ a, v = .ref a) ∧ ∀ y, eqP x y = none ∧ eqP y x = none) := by
  cases x with
  | non => exact Or.inl ⟨rfl, r⟩
  | bl i => exact Or.inr (Or.inl ⟨i, rfl, r⟩)
  | int i => exact Or.inr (Or.inr (Or.inl ⟨i, rfl, r⟩))
  | str i => exact Or.inr (Or.inr (Or.inr (Or.inl ⟨i, rfl, r⟩)))
  | lst xs =>
    obtain ⟨a, vs, e, _⟩ := r
    exact Or.inr (Or.inr (Or.inr (Or.inr ⟨⟨a, e⟩, fun y => by cases y <;> exact ⟨rfl, rfl⟩⟩)))
  | tup xs =>
    obtain ⟨a, vs, e, _⟩ := r
    exact Or.inr (Or.inr (Or.inr (Or.inr ⟨⟨a, e⟩, fun y => by cases y <;> exact ⟨rfl, rfl⟩⟩)))
  | _ => cases hd
theorem eqB_none {K : PySem.W.Frag} {cs : List Cn} {F : Hp} {x y : PV} {v u : V} (h : eqP x y = none) (dx : isDat x = true) (dy : isDat y = true) (rx : Rp K cs F x v) (ry : Rp K cs F y u) : eqB v u = none := by
  rcases rp_kind dx rx with ⟨rfl, rfl⟩ | ⟨i, rfl, rfl⟩ | ⟨i, rfl, rfl⟩ | ⟨i, rfl, rfl⟩ | ⟨⟨a, rfl⟩, _⟩ <;> rcases rp_kind dy ry with ⟨rfl, rfl⟩ | ⟨j, rfl, rfl⟩ | ⟨j, rfl, rfl⟩ | ⟨j, rfl, rfl⟩ | ⟨⟨b, rfl⟩, _⟩ <;> first | rfl | exact h
def uEq : DR2 := fun x y M Q => ∃ a b, x = .v a ∧ y = .v b ∧ ((∃ k, eqP a b = some k ∧ Q (vB k) M) ∨ (eqP a b = none ∧ isDat a = true ∧ isDat b = true ∧ SeqAt.shaped (pdat a) = true ∧ SeqAt.shaped (pdat b) = true ∧ Q (vB (PyData.eqv (pdat a) (pdat b))) M))
def uNe : DR2 := fun x y M Q => ∃ a b, x = .v a ∧ y = .v b ∧ ((∃ k, eqP a b = some k ∧ Q (vB (!k)) M) ∨ (eqP a b = none ∧ isDat a = true ∧ isDat b = true ∧ SeqAt.shaped (pdat a) = true ∧ SeqAt.shaped (pdat b) = true ∧ Q (vB (!PyData.eqv (pdat a) (pdat b))) M))
theorem so_eq : SimO S (zEq S.K) uEq := fun c M x y dx dy Q Qd ok rx ry q po => by
  obtain ⟨a, b, rfl, rfl, ⟨k, e, q⟩ | ⟨e, h1, h2, h3, h4, q⟩⟩ := q
  · unfold zEq
    rw [eqP_eqB e rx ry]
    exact po_v ok po (d := vB (k)) rfl q
  · unfold zEq
    rw [eqB_none e h1 h2 rx ry]
    exact ⟨_, _, Rp.dp ok.rl.same a x h1 rx, Rp.dp ok.rl.same b y h2 ry, h3, h4, po_v ok po (d := vB _) rfl q⟩
theorem so_ne : SimO S (zNe S.K) uNe := fun c M x y dx dy Q Qd ok rx ry q po => by
  obtain ⟨a, b, rfl, rfl, ⟨k, e, q⟩ | ⟨e, h1, h2, h3, h4, q⟩⟩ := q
  · unfold zNe
    rw [eqP_eqB e rx ry]
    exact po_v ok po (d := vB (!k)) rfl q
  · unfold zNe
    rw [eqB_none e h1 h2 rx ry]
    exact ⟨_, _, Rp.dp ok.rl.same a x h1 rx, Rp.dp ok.rl.same b y h2 ry, h3, h4, po_v ok po (d := vB _) rfl q⟩
/-! ### is, is not -/
def isNon : D → Bool
  | .v .non => true
  | _ => false
theorem non_iff {c : CS} {d : D} {v : V} (r : S.Vd c d v) : decide (v = V.non) = isNon d := by
  cases d with
  | cell i => obtain ⟨a, _, rfl⟩ := r; rfl
  | exn a => cases (show v = .ref a from r); rfl
  | v x =>
    cases x with
    | non => cases (show v = _ from r); rfl
    | bl _ => cases (show v = _ from r); rfl
    | int _ => cases (show v = _ from r); rfl
    | str _ => cases (show v = _ from r); rfl
    | ty _ => cases (show v = _ from r); rfl
    | cls _ => cases (show v = _ from r); rfl
    | lst _ => obtain ⟨_, _, rfl, _⟩ := r; rfl
    | tup _ => obtain ⟨_, _, rfl, _⟩ := r; rfl
    | obj _ _ => obtain ⟨_, _, _, rfl, _⟩ := r; rfl
    | dct _ _ => obtain ⟨_, _, rfl, _⟩ := r; rfl
    | scr _ => obtain ⟨_, rfl, _⟩ := r; rfl
def uIs : DR2 := fun x y M Q => (y = .v .non ∧ Q (vB (isNon x)) M) ∨ ∃ a b, x = vB a ∧ y = vB b ∧ Q (vB (decide (a = b))) M
def uIsNot : DR2 := fun x y M Q => (y = .v .non ∧ Q (vB (!isNon x)) M) ∨ ∃ a b, x = vB a ∧ y = vB b ∧ Q (vB (!decide (a = b))) M
theorem so_is : SimO S zIs uIs := fun c M x y dx dy Q Qd ok rx ry q po => by
  rcases q with ⟨rfl, q⟩ | ⟨a, b, rfl, rfl, q⟩
  · cases (show y = .non from ry)
    have e : zIs x .non c.H Q = Q (.bl (decide (x = .non))) c.H := by cases x <;> rfl
    rw [e, non_iff rx]
    exact po_v ok po (d := vB _) rfl q
  · cases (show x = .bl a from rx); cases (show y = .bl b from ry)
    exact po_v ok po (d := vB _) rfl q
theorem so_isnot : SimO S zIsNot uIsNot := fun c M x y dx dy Q Qd ok rx ry q po => by
  rcases q with ⟨rfl, q⟩ | ⟨a, b, rfl, rfl, q⟩
  · cases (show y = .non from ry)
    have e : zIsNot x .non c.H Q = Q (.bl (!decide (x = .non))) c.H := by cases x <;> rfl
    rw [e, non_iff rx]
    exact po_v ok po (d := vB _) rfl q
  · cases (show x = .bl a from rx); cases (show y = .bl b from ry)
    exact po_v ok po (d := vB _) rfl q
/-! ### in, not in -/
def PV.flat : PV → Bool
  | .non | .bl _ | .int _ | .str _ => true
  | _ => false
def PV.eqF : PV → PV → Bool
  | .non, .non => true
  | .bl a, .bl b => a == b
  | .bl a, .int b => (if a then 1 else 0) == b
  | .int a, .bl b => a == (if b then 1 else 0)
  | .int a, .int b => decide (a = b)
  | .str a, .str b => decide (a = b)
  | _, _ => false
theorem flat_kind {x : PV} (h : x.flat = true) : x = .non ∨ (∃ i, x = .bl i) ∨ (∃ i, x = .int i) ∨ ∃ z, x = .str z := by
  cases x <;> first | (cases h; done) | simp
theorem flat_v {K : PySem.W.Frag} {cs : List Cn} {F : Hp} {x : PV} {v : V} (h : x.flat = true) (r : Rp K cs F x v) : flatV v = true := by
  rcases flat_kind h with rfl | ⟨i, rfl⟩ | ⟨i, rfl⟩ | ⟨i, rfl⟩ <;> (cases (show v = _ from r); rfl)
theorem eqF_v {K : PySem.W.Frag} {cs : List Cn} {F : Hp} {x y : PV} {v u : V} (h : x.flat = true) (h' : y.flat = true) (r : Rp K cs F x v) (r' : Rp K cs F y u) : eqV v u = x.eqF y := by
  rcases flat_kind h with rfl | ⟨i, rfl⟩ | ⟨i, rfl⟩ | ⟨i, rfl⟩ <;> rcases flat_kind h' with rfl | ⟨j, rfl⟩ | ⟨j, rfl⟩ | ⟨j, rfl⟩ <;> (cases (show v = _ from r); cases (show u = _ from r'); first
    | rfl
    | (show (_ == _) = decide _; rw [Bool.eq_iff_iff]; simp))
theorem flat_allP {K : PySem.W.Frag} {cs : List Cn} {F : Hp} {xs : List PV} {vs : List V} (r : A2 (Rp K cs F) xs vs) : xs.all PV.flat = true → vs.all flatV = true := by
  induction r with
  | nil => exact fun _ => rfl
  | cons r t ih =>
    intro h
    rw [List.all_cons, Bool.and_eq_true] at h ⊢
    exact ⟨flat_v h.1 r, ih h.2⟩
theorem in_v {K : PySem.W.Frag} {cs : List Cn} {F : Hp} {x : PV} {v : V} (hx : x.flat = true) (rx : Rp K cs F x v) {xs : List PV} {vs : List V} (r : A2 (Rp K cs F) xs vs) : xs.all PV.flat = true → inV v vs = xs.any fun y => y.eqF x := by
  induction r with
  | nil => exact fun _ => rfl
  | cons r t ih =>
    intro h
    rw [List.all_cons, Bool.and_eq_true] at h
    show (eqV _ v || inV v _) = _
    rw [ih h.2, eqF_v h.1 hx r rx, List.any_cons]
def uInB (b : Bool) : DR2 := fun x y M Q => (∃ c z, x = vS [c] ∧ y = vS z ∧ Q (vB (b != decide (c ∈ z))) M) ∨ ∃ x' ys xs, x = .v x' ∧ sqOf M y = some ys ∧ pures ys = some xs ∧ x'.flat = true ∧ xs.all PV.flat = true ∧ Q (vB (b != xs.any fun y => y.eqF x')) M
abbrev uIn : DR2 := uInB false
abbrev uNotIn : DR2 := uInB true
theorem in_seq {c : CS} {M : Mem} (ok : S.Ok c M) {x : PV} {v u : V} {d : D} {ys : List D} {xs : List PV} (rx : S.Vd c (.v x) v) (ry : S.Vd c d u) (h1 : sqOf M d = some ys) (h2 : pures ys = some xs) (h3 : x.flat = true) (h4 : xs.all PV.flat = true) : ∃ a vs, u = .ref a ∧ (SqL S.K c.H a vs ∨ SqT S.K c.H a vs) ∧ flatV v = true ∧ vs.all flatV = true ∧ inV v vs = xs.any fun y => y.eqF x := by
  obtain ⟨a, vs, e, hs, r⟩ := sq_at ok ry h1
  have r' := (ld_pure r h2).a2
  exact ⟨a, vs, e, hs, flat_v h3 rx, flat_allP r' h4, in_v h3 rx r' h4⟩
theorem so_notin : SimO S (zNotIn S.K) uNotIn := fun c M x y dx dy Q Qd ok rx ry q po => by
  rcases q with ⟨c', z, rfl, rfl, q⟩ | ⟨x', ys, xs, rfl, h1, h2, h3, h4, q⟩
  · cases (show x = sv [c'] from rx); cases (show y = sv z from ry)
    rw [Bool.true_bne] at q
    exact po_v ok po (d := vB _) rfl q
  · rw [Bool.true_bne] at q
    obtain ⟨a, vs, rfl, g1, g2, g3, g4⟩ := in_seq ok rx ry h1 h2 h3 h4
    exact ⟨vs, g1, g2, g3, by rw [g4]; exact po_v ok po (d := vB _) rfl q⟩
/-! ### x[i], x[lo:hi] -/
theorem atI_a2 {α β : Type} {R : α → β → Prop} {xs : List α} {vs : List β} (r : A2 R xs vs) {i : Int} {x : α} (h : atI xs i = some x) : ∃ v, atI vs i = some v ∧ R x v := by
  unfold atI at h ⊢
  rw [← r.len]
  cases e : ixN xs.length i with
  | none => rw [e] at h; cases h
  | some j =>
    rw [e] at h
    exact r.get h
def uIx : DR2 := fun x y M Q => ∃ i, y = vI i ∧ ((∃ z c, x = vS z ∧ z.length ≤ sizeLine ∧ atI z i = some c ∧ Q (vS [c]) M) ∨ (∃ xs u, (x = vL xs ∨ x = vT xs) ∧ atI xs i = some u ∧ Q (.v u) M) ∨
  ∃ k ds u, x = .cell k ∧ M[k]? = some (some (.lst ds)) ∧ atI ds i = some u ∧ Q u M)
theorem so_ix : SimO S (zIx S.K) uIx := fun c M x y dx dy Q Qd ok rx ry q po => by
  obtain ⟨i, rfl, ⟨z, c', rfl, h1, h2, q⟩ | ⟨xs, z, rfl | rfl, hz, q⟩ | ⟨k, ds, z, rfl, m, hz, q⟩⟩ := q <;> cases (show y = .int i from ry)
  · cases (show x = sv z from rx)
    exact ⟨c', h1, h2, po_v ok po (d := vS [c']) rfl q⟩
  · obtain ⟨a, vs, e, h1, h2⟩ := rx
    cases e
    obtain ⟨v, g1, g2⟩ := atI_a2 h2.a2 hz
    exact ⟨vs, v, .inl (sq_of (ok.rl.same _ _ h1)), g1, po_v ok po (d := .v z) g2 q⟩
  · obtain ⟨a, vs, e, h1, h2⟩ := rx
    cases e
    obtain ⟨v, g1, g2⟩ := atI_a2 h2.a2 hz
    exact ⟨vs, v, .inr (Same.seqT ok.rl.same h1), g1, po_v ok po (d := .v z) g2 q⟩
  · obtain ⟨a, e, ea⟩ := rx
    cases ea
    obtain ⟨h1, o, h2, vs, rfl, h3⟩ := ok.rl.live k a _ e m
    obtain ⟨v, g1, g2⟩ := atI_a2 h3 hz
    exact ⟨vs, v, .inl (sq_of h2), g1, po_v ok po g2 q⟩
theorem A2.cut {α β : Type} {R : α → β → Prop} {xs : List α} {vs : List β} (r : A2 R xs vs) (lo hi : Option Int) : A2 R (cut xs lo hi) (cut vs lo hi) := by
  unfold Cl.cut
  rw [r.len]
  exact (r.drop _).take _
def uSl : D → Option Int → Option Int → Mem → DQ → Prop := fun x lo hi M Q => (∃ z, x = vS z ∧ z.length ≤ sizeLine ∧ Q (vS (cut z lo hi)) M) ∨ (∃ xs, x = vL xs ∧ Q (vL (cut xs lo hi)) M) ∨ (∃ ns, x = .v (.scr ns) ∧ Q (vL ((cut ns lo hi).map PV.int)) M) ∨
  ∃ k ds xs, x = .cell k ∧ M[k]? = some (some (.lst ds)) ∧ pures ds = some xs ∧ Q (vL (cut xs lo hi)) M
theorem int_rpL {K : PySem.W.Frag} {cs : List Cn} {F : Hp} (ns : List Int) : RpL K cs F (ns.map PV.int) (ns.map V.int) := (A2.of_map (R := Rp K cs F) (f := PV.int) (g := V.int) (fun _ => rfl) ns).rpL
theorem sl_sl : SimL S (zSl S.K) uSl := fun c M x dx lo hi Q Qd ok rx q po => by
  rcases q with ⟨z, rfl, h, q⟩ | ⟨xs, rfl, q⟩ | ⟨ns, rfl, q⟩ | ⟨k, ds, xs, rfl, m, hp, q⟩
  · cases (show x = sv z from rx)
    exact ⟨h, po_v ok po (d := vS _) rfl q⟩
  · obtain ⟨a, vs, e, h1, h2⟩ := rx
    cases e
    exact ⟨vs, sq_of (ok.rl.same _ _ h1), fun p hp => po_lst ok po hp (h2.a2.cut lo hi).rpL q⟩
  · obtain ⟨a, e, h1⟩ := rx
    cases e
    refine ⟨_, ok.rl.same.seq h1, fun p hp => po_lst ok po hp ?_ q⟩
    rw [cut_map]
    exact int_rpL _
  · obtain ⟨a, e, ea⟩ := rx
    cases ea
    obtain ⟨h1, o, h2, vs, rfl, h3⟩ := ok.rl.live k a _ e m
    exact ⟨vs, sq_of h2, fun p hp' => po_lst ok po hp' ((ld_pure h3 hp).a2.cut lo hi).rpL q⟩
def dRev (a : DE) : DE := fun ds M Q => a ds M fun x M1 => ∃ z, x = .v (.str z) ∧ z.length ≤ sizeLine ∧ Q (.v (.str z.reverse)) M1
/-- a < b < c -/
def dChain (r r' : DR2) (a b e : DE) : DE := fun ds M Q => a ds M fun x M1 => b ds M1 fun y M2 => r x y M2 fun z M3 => ∃ k, z = .v (.bl k) ∧ if k = true then e ds M3 fun u M4 => r' y u M4 Q else Q (.v (.bl false)) M3
theorem sim_chain {r r' : R2} {d d' : DR2} {ta tb tc : TE} {da db dc : DE} (hr : SimO S r d) (hr' : SimO S r' d') (ha : SimE S ta da) (hb : SimE S tb db) (hc : SimE S tc dc) : SimE S (tChain r r' ta tb tc) (dChain d d' da db dc) := fun c M σ ds Q Qd ok rs q po =>
  ha c M σ ds _ _ ok rs q fun c1 M1 v1 d1 s1 r1 p1 q1 => hb c1 M1 σ ds _ _ (ok.step s1 r1) (rs.step s1) q1 fun c2 M2 v2 d2 s2 r2 p2 q2 => by
    have ok2 := (ok.step s1 r1).step s2 r2
    refine hr c2 M2 v1 v2 d1 d2 _ _ ok2 (Sc.Vd.step p1 s2) p2 q2 fun c3 M3 v3 d3 s3 r3 p3 ⟨k, e, q3⟩ => ?_
    subst e
    cases (show v3 = .bl k from p3)
    refine ⟨k, rfl, ?_⟩
    cases k with
    | true => exact hc c3 M3 σ ds _ _ (ok2.step s3 r3) (((rs.step s1).step s2).step s3) q3 fun c4 M4 v4 d4 s4 r4 p4 q4 => hr' c4 M4 v2 v4 d2 d4 _ _ ((ok2.step s3 r3).step s4 r4) (Sc.Vd.step (Sc.Vd.step p2 s3) s4) p4 q4 (po.step (((s1.trans s2).trans s3).trans s4))
    | false => exact po c3 M3 _ (vB false) ((s1.trans s2).trans s3) r3 rfl q3
end
end Cl
/-! The layer of values, part 4: calls, methods, fields, objects, comprehensions, errors. -/
namespace Cl
open PySem PySem.Spec PyProof.Rows L2 He ClX
open StX (CallO callO_with)
section
variable {S : Sc}
/-! ### built-ins -/
abbrev sgn (z : List Nat) : List PV := z.map fun c => .str [c]
theorem sgn_rp {K : PySem.W.Frag} {cs : List Cn} {F : Hp} (z : List Nat) : RpL K cs F (sgn z) (sgs z) := (A2.of_map (R := Rp K cs F) (f := fun c => PV.str [c]) (g := fun c => sv [c]) (fun _ => rfl) z).rpL
theorem ld1 {c : CS} {d : D} {vs : List V} (r : S.Ld c [d] vs) : ∃ v, vs = [v] ∧ S.Vd c d v := by
  cases r with
  | cons r t => cases t; exact ⟨_, rfl, r⟩
theorem ld2 {c : CS} {d e : D} {vs : List V} (r : S.Ld c [d, e] vs) : ∃ v u, vs = [v, u] ∧ S.Vd c d v ∧ S.Vd c e u := by
  cases r with
  | cons r t =>
    obtain ⟨u, rfl, q⟩ := ld1 t
    exact ⟨_, _, rfl, r, q⟩
def uLen : DR := fun xs M Q => ∃ d, xs = [d] ∧ ((∃ z, d = vS z ∧ z.length ≤ sizeLine ∧ Q (vI z.length) M) ∨ ∃ ys, sqOf M d = some ys ∧ Q (vI ys.length) M)
theorem sr_len {P : Program} {w : World} : SimR S (zLenS P w S.K) uLen := fun c M vs ds Q Qd ok r0 q po => by
  obtain ⟨d, rfl, h⟩ := q
  obtain ⟨v, rfl, r⟩ := ld1 r0
  refine Or.inl ⟨v, ?_⟩
  rcases h with ⟨z, rfl, hz, q⟩ | ⟨ys, hy, q⟩
  · cases (show v = sv z from r)
    exact ⟨z.length, rfl, ⟨hz, rfl⟩, po_v ok po (d := vI z.length) rfl q⟩
  · obtain ⟨a, vs, rfl, h1, h2⟩ := sq_at ok r hy
    refine ⟨vs.length, rfl, ?_, ?_⟩
    · rcases h1 with h1 | h1
      · exact Or.inl ⟨vs, h1, rfl⟩
      · exact Or.inr ⟨vs, h1, rfl⟩
    · rw [← h2.len]
      exact po_v ok po (d := vI ys.length) rfl q
/-- len(set(text)) -/
def uLenSet : DR := fun xs M Q => ∃ z, xs = [vS z] ∧ z.length ≤ 1000 ∧ ∀ n : Nat, decide ((n : Int) = (z.length : Int)) = decide z.Nodup → Q (vI n) M
def dLenSet (a : DA) : DE := dCB uLenSet a
theorem sim_lenSet {P : Program} {w : World} {ta : TA} {da : DA} (ha : SimA S ta da) : SimE S (tCB (zLenS P w S.K) (tCons (tCB (zSet P w) ta) tNil)) (dLenSet da) := fun c M σ ds Q Qd ok rs q po =>
  ha c M σ ds _ _ ok rs q fun c1 M1 v1 d1 s1 r1 p1 ⟨z, e, hz, q1⟩ => by
    subst e
    obtain ⟨v, rfl, r⟩ := ld1 p1
    cases (show v = sv z from r)
    refine ⟨hz, fun p l hp nd m hl => Or.inr ⟨p, l, rfl, upd_same, by omega, ?_⟩⟩
    obtain ⟨r2, s2⟩ := r1.beside hp (TxS P w p l)
    exact po ⟨_, _, _⟩ M1 _ (vI l.length) (s1.trans s2) r2 rfl (q1 l.length (len_nodup_b nd m))
/-- sorted(text) -/
def uSrt : DR := fun xs M Q => ∃ z, xs = [vS z] ∧ z.length < 64 ∧ Q (vL (sgn (srt z))) M
theorem sr_srt {P : Program} {w : World} : SimR S (zSortedS P w S.K) uSrt := fun c M vs ds Q Qd ok r0 q po => by
  obtain ⟨z, rfl, hz, q⟩ := q
  obtain ⟨v, rfl, r⟩ := ld1 r0
  cases (show v = sv z from r)
  refine Or.inl ⟨hz, fun zs p pm so hp => ?_⟩
  rw [sorted_signs pm so]
  exact po_lst ok po hp (sgn_rp _) q
/-- sorted(set(text)) -/
def dSrtSet (a : DA) : DE := dCB (fun xs M Q => ∃ z, xs = [vS z] ∧ z.length < 64 ∧ ∀ ys : List Nat, ys.Pairwise (· < ·) → (∀ c, c ∈ ys ↔ c ∈ z) → Q (vL (sgn ys)) M) a
/-- list(..) -/
def uList : DR := fun xs M Q => ∃ d, xs = [d] ∧ ((∃ z, d = vS z ∧ z.length ≤ sizeLine ∧ Q (vL (sgn z)) M) ∨ ∃ ys ps, sqOf M d = some ys ∧ pures ys = some ps ∧ Q (vL ps) M)
def uListC : DR := fun xs M Q => ∃ d, xs = [d] ∧ ((∃ z, d = vS z ∧ z.length ≤ sizeLine ∧ Q (.cell M.length) (M ++ [some (.lst ((sgn z).map D.v))])) ∨ ∃ ys, sqOf M d = some ys ∧ Q (.cell M.length) (M ++ [some (.lst ys)]))
theorem sr_list : SimR S (zListT S.K) uList := fun c M vs ds Q Qd ok r0 q po => by
  obtain ⟨d, rfl, h⟩ := q
  obtain ⟨v, rfl, r⟩ := ld1 r0
  rcases h with ⟨z, rfl, hz, q⟩ | ⟨ys, ps, hy, hp, q⟩
  · cases (show v = sv z from r)
    exact ⟨hz, fun l hl => po_lst ok po hl (sgn_rp z) q⟩
  · obtain ⟨a, vs, rfl, h1, h2⟩ := sq_at ok r hy
    exact ⟨vs, h1, fun l hl => po_lst ok po hl (ld_pure h2 hp) q⟩
theorem sr_listC : SimR S (zListT S.K) uListC := fun c M vs ds Q Qd ok r0 q po => by
  obtain ⟨d, rfl, h⟩ := q
  obtain ⟨v, rfl, r⟩ := ld1 r0
  rcases h with ⟨z, rfl, hz, q⟩ | ⟨ys, hy, q⟩
  · cases (show v = sv z from r)
    exact ⟨hz, fun l hl => po_lstC ok po hl (RpL.ds (sgn_rp z)) q⟩
  · obtain ⟨a, vs, rfl, h1, h2⟩ := sq_at ok r hy
    exact ⟨vs, h1, fun l hl => po_lstC ok po hl h2 q⟩
def zInt2 : List V → Hp → VK → Prop := fun xs H Q => (∃ i, xs = [.int i] ∧ Q (.int i) H) ∨ ∃ k, xs = [.bl k] ∧ Q (.int (if k then 1 else 0)) H
theorem cz_int2 {X : Cx} : CallR X (.type "int") zInt2 := call_int1
def uInt : DR := fun xs M Q => (∃ i, xs = [vI i] ∧ Q (vI i) M) ∨ ∃ k, xs = [vB k] ∧ Q (vI (if k then 1 else 0)) M
theorem sr_int : SimR S zInt2 uInt := fun c M vs ds Q Qd ok r0 q po => by
  rcases q with ⟨i, rfl, q⟩ | ⟨k, rfl, q⟩ <;> obtain ⟨v, rfl, r⟩ := ld1 r0
  · cases (show v = .int i from r)
    exact Or.inl ⟨i, rfl, po_v ok po (d := vI i) rfl q⟩
  · cases (show v = .bl k from r)
    exact Or.inr ⟨k, rfl, po_v ok po (d := vI (if k then 1 else 0)) rfl q⟩
/-- the figures of a number -/
def figs (i : Int) : List Nat := ((toString i : Str)).cps.toList
def uBool : DR := fun xs M Q => ∃ k, xs = [vB k] ∧ Q (vB k) M
/-! ### truth -/
def truD (M : Mem) : D → Option Bool
  | .v .non => some false
  | .v (.bl b) => some b
  | .v (.int i) => some (i != 0)
  | .v (.str z) => some (!z.isEmpty)
  | .v (.lst xs) => some (!xs.isEmpty)
  | .v (.tup xs) => some (!xs.isEmpty)
  | .cell i => (match M[i]? with
    | some (some (.lst ds)) => some (!ds.isEmpty)
    | some (some (.dct ds)) => some (!ds.isEmpty)
    | _ => none)
  | _ => none
theorem isEmpty_a2 {α β : Type} {R : α → β → Prop} {xs : List α} {vs : List β} (r : A2 R xs vs) : vs.isEmpty = xs.isEmpty := by cases r <;> rfl
theorem tru_at {c : CS} {M : Mem} (ok : S.Ok c M) {d : D} {v : V} {k : Bool} (r : S.Vd c d v) (h : truD M d = some k) (hz : ∀ z, d = vS z → z.length ≤ sizeLine) : TruV S.K v c.H k := by
  cases d with
  | v x =>
    cases x with
    | non => cases (show v = _ from r); cases h; rfl
    | bl b => cases (show v = _ from r); cases h; rfl
    | int i => cases (show v = _ from r); cases h; rfl
    | str z =>
      cases (show v = _ from r); cases h
      refine ⟨hz z rfl, ?_⟩
      cases z with
      | nil => rfl
      | cons a t =>
        show true = (((t.length + 1 : Nat) : Int) != 0)
        rw [Bool.eq_iff_iff]
        simp
        omega
    | lst xs =>
      obtain ⟨a, vs, rfl, h1, h2⟩ := r
      cases h
      exact Or.inl ⟨vs, sq_of (ok.rl.same _ _ h1), by rw [isEmpty_a2 h2.a2]⟩
    | tup xs =>
      obtain ⟨a, vs, rfl, h1, h2⟩ := r
      cases h
      exact Or.inr (Or.inl ⟨vs, Same.seqT ok.rl.same h1, by rw [isEmpty_a2 h2.a2]⟩)
    | _ => cases h
  | cell i =>
    obtain ⟨a, e, rfl⟩ := r
    unfold truD at h
    dsimp only at h
    split at h
    · rename_i xs m
      cases h
      obtain ⟨h1, o, h2, vs, rfl, h3⟩ := ok.rl.live i a _ e m
      exact Or.inl ⟨vs, sq_of h2, by rw [isEmpty_a2 h3]⟩
    · rename_i xs m
      cases h
      obtain ⟨h1, o, h2, vs, rfl, h3⟩ := ok.rl.live i a _ e m
      exact Or.inr (Or.inr ⟨vs, h2, by rw [isEmpty_a2 h3]⟩)
    · cases h
  | exn _ => cases h
def dTru (a : DE) : DT := fun ds M Q => a ds M fun x M1 => ∃ k, truD M1 x = some k ∧ (∀ z, x = vS z → z.length ≤ sizeLine) ∧ Q k M1
theorem sim_tru {ta : TE} {da : DE} (ha : SimE S ta da) : SimT S (tTru S.K ta) (dTru da) := fun c M σ ds Q Qd ok rs q po =>
  ha c M σ ds _ _ ok rs q fun c1 M1 v1 d1 s1 r1 p1 ⟨k, e, hz, q1⟩ => ⟨k, tru_at (ok.step s1 r1) p1 e hz, po c1 M1 k s1 r1 q1⟩
/-! ### methods of lists and texts -/
def tyS : D → Mem → Prop := fun d _ => ∃ z, d = vS z
def tyL : D → Mem → Prop := fun d M => ∃ ds, lsOf M d = some ds
def dBm (ty : D → Mem → Prop) (r : DM) (o : DE) (a : DA) : DE := fun ds M Q => o ds M fun x M1 => ty x M1 ∧ a ds M1 fun xs M2 => r x xs M2 Q
theorem ty_S {c : CS} {M : Mem} (ok : S.Ok c M) {d : D} {v : V} (r : S.Vd c d v) (h : tyS d M) : tyV S.K "str" v c.H := by
  obtain ⟨z, rfl⟩ := h
  cases (show v = sv z from r)
  rfl
theorem ty_L {c : CS} {M : Mem} (ok : S.Ok c M) {d : D} {v : V} (r : S.Vd c d v) (h : tyL d M) : tyV S.K "list" v c.H := by
  obtain ⟨ds, h⟩ := h
  obtain ⟨a, vs, rfl, h1, h2⟩ := ls_at ok r h
  exact Or.inl ⟨rfl, vs, sq_of h1⟩
theorem sim_bm {T : String} {ty : D → Mem → Prop} (hty : ∀ c M d v, S.Ok c M → S.Vd c d v → ty d M → tyV S.K T v c.H) {r : V → List V → Hp → VK → Prop} {d : DM} {te : TE} {de : DE} {ta : TA} {da : DA} (hr : SimM S r d) (he : SimE S te de) (ha : SimA S ta da) : SimE S (tBM S.K T r te ta) (dBm ty d de da) := fun c M σ ds Q Qd ok rs q po =>
  he c M σ ds _ _ ok rs q fun c1 M1 v1 d1 s1 r1 p1 ⟨t1, q1⟩ => ⟨hty c1 M1 d1 v1 (ok.step s1 r1) p1 t1, ha c1 M1 σ ds _ _ (ok.step s1 r1) (rs.step s1) q1 fun c2 M2 v2 d2 s2 r2 p2 q2 =>
    hr c2 M2 v1 d1 v2 d2 _ _ ((ok.step s1 r1).step s2 r2) (Sc.Vd.step p1 s2) p2 q2 (po.step (s1.trans s2))⟩
theorem sim_bmS {r : V → List V → Hp → VK → Prop} {d : DM} {te : TE} {de : DE} {ta : TA} {da : DA} (hr : SimM S r d) (he : SimE S te de) (ha : SimA S ta da) : SimE S (tBM S.K "str" r te ta) (dBm tyS d de da) := sim_bm (fun _ _ _ _ ok r h => ty_S ok r h) hr he ha
theorem sim_bmL {r : V → List V → Hp → VK → Prop} {d : DM} {te : TE} {de : DE} {ta : TA} {da : DA} (hr : SimM S r d) (he : SimE S te de) (ha : SimA S ta da) : SimE S (tBM S.K "list" r te ta) (dBm tyL d de da) := sim_bm (fun _ _ _ _ ok r h => ty_L ok r h) hr he ha
def uApp : DM := fun x xs M Q => ∃ k ds d, x = .cell k ∧ xs = [d] ∧ M[k]? = some (some (.lst ds)) ∧ ds.length < sizeLine ∧ Q (.v .non) (M.set k (some (.lst (ds ++ [d]))))
theorem sm_app : SimM S zApp uApp := fun c M x dx vs ds Q Qd ok rx rv0 q po => by
  obtain ⟨k, es, d, rfl, rfl, m, hl, q⟩ := q
  obtain ⟨v, rfl, rv⟩ := ld1 rv0
  obtain ⟨a, e, rfl⟩ := rx
  obtain ⟨h1, o, h2, ws, rfl, h3⟩ := ok.rl.live k a _ e m
  obtain ⟨r2, s2⟩ := ok.rl.setc e m (y := .lst (es ++ [d])) (o := .lst (ws ++ [v])) ⟨_, rfl, h3.append (.cons rv .nil)⟩
  exact ⟨ws, h2, by rw [← h3.len]; exact hl, po ⟨_, _, _⟩ _ _ (.v .non) s2 r2 rfl q⟩
def uPop : DM := fun x xs M Q => ∃ k ds i y, x = .cell k ∧ xs = [vI i] ∧ M[k]? = some (some (.lst ds)) ∧ 0 ≤ i ∧ i < ds.length ∧ ds.length ≤ sizeLine ∧ ds[i.toNat]? = some y ∧ Q y (M.set k (some (.lst (ds.eraseIdx i.toNat))))
theorem sm_pop : SimM S zPop uPop := fun c M x dx vs ds Q Qd ok rx rv0 q po => by
  obtain ⟨k, es, i, y, rfl, rfl, m, h0, hi, hl, hy, q⟩ := q
  obtain ⟨v, rfl, rv⟩ := ld1 rv0
  cases (show v = .int i from rv)
  obtain ⟨a, e, rfl⟩ := rx
  obtain ⟨h1, o, h2, ws, rfl, h3⟩ := ok.rl.live k a _ e m
  obtain ⟨u, g1, g2⟩ := h3.get hy
  obtain ⟨r2, s2⟩ := ok.rl.setc e m (y := .lst (es.eraseIdx i.toNat)) (o := .lst (ws.eraseIdx i.toNat)) ⟨_, rfl, h3.erase _⟩
  exact ⟨ws, u, h2, h0, by rw [← h3.len]; exact hi, by rw [← h3.len]; exact hl, g1, po ⟨_, _, _⟩ _ _ y s2 r2 (Sc.Vd.step g2 s2) q⟩
def uJoin : DM := fun x xs M Q => ∃ a d ys, x = vS a ∧ xs = [d] ∧ sqOf M d = some ((ys.map PV.str).map D.v) ∧ (ys.map List.length).sum + ys.length * a.length ≤ 16777216 ∧ Q (vS (glue a ys)) M
theorem strs_v {c : CS} : ∀ {ys : List (List Nat)} {vs : List V}, S.Ld c ((ys.map PV.str).map D.v) vs → vs = ys.map sv
  | [], _, r => by cases r; rfl
  | y :: ys, _, r => by
    cases r with
    | cons r t =>
      rw [strs_v t]
      cases (show _ = sv y from r)
      rfl
theorem sm_join : SimM S (zJoin S.K) uJoin := fun c M x dx vs ds Q Qd ok rx rv0 q po => by
  obtain ⟨a, d, ys, rfl, rfl, hs, hl, q⟩ := q
  obtain ⟨v, rfl, rv⟩ := ld1 rv0
  cases (show x = sv a from rx)
  obtain ⟨p, ws, rfl, h1, h2⟩ := sq_at ok rv hs
  rw [strs_v h2] at h1
  exact ⟨ys, h1, hl, po_v ok po (d := vS _) rfl q⟩
end
end Cl
/-! The layer of values, part 5: defs, fields, objects, comprehensions, errors. -/
namespace Cl
open PySem PySem.Spec PyProof.Rows L2 He ClX
open StX (CallO callO_with)
/-! ### promises -/
/-- the promise over data, as one over the heap -/
def spD (K : PySem.W.Frag) (cs : List Cn) (g : DSp) : Sp := fun vs H Q E => ∃ (c : CS) (M : Mem) (ds : List D) (Qd : DQ) (Ed : DX), c.H = H ∧ Rel K cs c M ∧ A2 (RpD K cs c.F c.ρ) ds vs ∧ g ds M Qd Ed ∧
  (∀ c' M' v d, Step c M c' M' → Rel K cs c' M' → RpD K cs c'.F c'.ρ d v → Qd d M' → Q v c'.H) ∧ (∀ c' M' cls d e, Step c M c' M' → Rel K cs c' M' → RpX K cs c' e cls d → Ed e M' → E cls d c'.H)
def startD (n : Nat) (ds : List D) : DSt := ds.map some ++ List.replicate (n - ds.length) none
theorem start_rp {K : PySem.W.Frag} {cs : List Cn} {c : CS} {ds : List D} {vs : List V} {N : List Str} (r : A2 (RpD K cs c.F c.ρ) ds vs) : RpS K cs c (startD N.length ds) (L2.start N vs) := by
  have hl := r.len
  refine ⟨by unfold startD L2.start; simp [hl], fun i d e => ?_⟩
  unfold startD at e
  unfold L2.start
  by_cases hi : i < ds.length
  · rw [List.getElem?_append_left (by simpa using hi), List.getElem?_map] at e
    cases q : ds[i]? with
    | none => rw [q] at e; cases e
    | some d' =>
      rw [q] at e
      cases e
      obtain ⟨v, h1, h2⟩ := r.get q
      exact ⟨v, by rw [List.getElem?_append_left (by rw [List.length_map, ← hl]; exact hi), List.getElem?_map, h1]; rfl, h2⟩
  · rw [List.getElem?_append_right (by simpa using hi)] at e
    have := List.mem_of_getElem? e
    rw [List.mem_replicate] at this
    exact absurd this.2 (by simp)
/-- at the end of a def the cells of its own are forgotten -/
def qExit (M : Mem) (Q : DQ) : DQ := fun d M' => (∀ i, d = .cell i → i < M.length) ∧ Exit M M' ∧ Q d (M'.take M.length)
def xExit (M : Mem) (Q : DX) : DX := fun e M' => Exit M M' ∧ Q e (M'.take M.length)
/-- a def's body follows its promise: nothing is forgotten -/
theorem pure_keep {K : PySem.W.Frag} {cs : List Cn} {g : DSp} {N : List Str} {t : XK → TS} {d : DX → DS}
    (sim : ∀ (S : Sc) (E : XK) (Ed : DX), S.K = K → S.cs = cs → PoX S S.c0 S.M0 Ed E → SimS S (t E) (d Ed))
    (ref : ∀ ds M Q E, g ds M Q E → d E { nx := fun _ M' => Q (.v .non) M', rt := Q } (startD N.length ds) M)
    (vs : List V) (H : Hp) (Q : VK) (E : XK) (h : spD K cs g vs H Q E) : t E { nx := fun _ H' => Q .non H', rt := Q } (L2.start N vs) H := by
  obtain ⟨c, M, ds, Qd, Ed, rfl, rl, ra, hg, hq, he⟩ := h
  refine sim ⟨K, cs, c, M⟩ E Ed rfl rfl he c M (L2.start N vs) (startD N.length ds) _ { nx := fun _ M' => Qd (.v .non) M', rt := Qd } ⟨Step.refl _ _, rl⟩ (start_rp ra) (ref ds M Qd Ed hg) ⟨fun c' M' σ' ds' s r _ q => hq c' M' .non (.v .non) s r rfl q, fun c' M' v d s r p q => hq c' M' v d s r p q, fun _ _ _ _ _ _ _ q => q.elim, fun _ _ _ _ _ _ _ q => q.elim⟩
/-- .. the def's own cells are forgotten -/
theorem pure_cut {K : PySem.W.Frag} {cs : List Cn} {g : DSp} {N : List Str} {t : XK → TS} {d : DX → DS}
    (sim : ∀ (S : Sc) (E : XK) (Ed : DX), S.K = K → S.cs = cs → PoX S S.c0 S.M0 Ed E → SimS S (t E) (d Ed))
    (ref : ∀ ds M Q E, g ds M Q E → d (xExit M E) { nx := fun _ M' => qExit M Q (.v .non) M', rt := qExit M Q } (startD N.length ds) M)
    (vs : List V) (H : Hp) (Q : VK) (E : XK) (h : spD K cs g vs H Q E) : t E { nx := fun _ H' => Q .non H', rt := Q } (L2.start N vs) H := by
  obtain ⟨c, M, ds, Qd, Ed, rfl, rl, ra, hg, hq, he⟩ := h
  have hq' : ∀ c' M' v d, Step c M c' M' → Rel K cs c' M' → RpD K cs c'.F c'.ρ d v → qExit M Qd d M' → Q v c'.H := fun c' M' v d s r p ⟨q1, q2, q3⟩ => by
    obtain ⟨r2, s2, e2⟩ := rl.cut r s q2
    exact hq ⟨c'.F, c'.ρ.take M.length, c'.H⟩ _ v d s2 r2 (p.low q1) q3
  have he' : ∀ c' M' cls d e, Step c M c' M' → Rel K cs c' M' → RpX K cs c' e cls d → xExit M Ed e M' → E cls d c'.H := fun c' M' cls d e s r p ⟨q2, q3⟩ => by
    obtain ⟨r2, s2, e2⟩ := rl.cut r s q2
    exact he ⟨c'.F, c'.ρ.take M.length, c'.H⟩ _ cls d e s2 r2 p q3
  refine sim ⟨K, cs, c, M⟩ E (xExit M Ed) rfl rfl he' c M (L2.start N vs) (startD N.length ds) _ { nx := fun _ M' => qExit M Qd (.v .non) M', rt := qExit M Qd } ⟨Step.refl _ _, rl⟩ (start_rp ra) (ref ds M Qd Ed hg) ⟨fun c' M' σ' ds' s r _ q => hq' c' M' .non (.v .non) s r rfl q, fun c' M' v d s r p q => hq' c' M' v d s r p q, fun _ _ _ _ _ _ _ q => q.elim, fun _ _ _ _ _ _ _ q => q.elim⟩
theorem spD_len {K : PySem.W.Frag} {cs : List Cn} {g : DSp} {n : Nat} (h : ∀ ds M Q E, g ds M Q E → ds.length = n) (vs : List V) (H : Hp) (Q : VK) (E : XK) (q : spD K cs g vs H Q E) : vs.length = n := by
  obtain ⟨c, M, ds, Qd, Ed, rfl, rl, ra, hg, hq, he⟩ := q
  rw [← ra.len]
  exact h _ _ _ _ hg
section
variable {S : Sc}
variable {te ta tb : TE} {da db de : DE} {tt tu : TT} {dt du : DT} {tr : TA} {dr : DA} {ts us : TS} {dss dus : DS}
/-! ### calls -/
def noX : DX := fun _ _ => False
theorem po_no {c : CS} {M : Mem} {E : XK} : PoX S c M noX E := fun _ _ _ _ _ _ _ _ q => q.elim
theorem sp_run {c : CS} {M : Mem} {g : DSp} {vs : List V} {ds : List D} {Q : VK} {Qd : DQ} {E : XK} {Ed : DX} (ok : S.Ok c M) (r : S.Ld c ds vs) (h : g ds M Qd Ed) (po : PoE S c M Qd Q) (px : PoX S S.c0 S.M0 Ed E) : spD S.K S.cs g vs c.H Q E :=
  ⟨c, M, ds, Qd, Ed, rfl, ok.rl, r, h, po, fun c' M' cls d e s r p q => px c' M' cls d e (ok.st.trans s) r p q⟩
def dCall (g : DSp) (Ed : DX) (a : DA) : DE := fun ds M Q => a ds M fun xs M1 => g xs M1 Q Ed
theorem sim_call {g : DSp} {E : XK} {Ed : DX} (px : PoX S S.c0 S.M0 Ed E) (ha : SimA S tr dr) : SimE S (tCall (spD S.K S.cs g) [] E tr) (dCall g Ed dr) := fun c M σ ds Q Qd ok rs q po =>
  ha c M σ ds _ _ ok rs q fun c1 M1 v1 d1 s1 r1 p1 q1 => by
    rw [List.append_nil]
    exact sp_run (ok.step s1 r1) p1 q1 (po.step s1) px
/-! ### objects -/
/-- what is known of the classes -/
structure CsOk (K : PySem.W.Frag) (cs : List Cn) : Prop where
  cl : ∀ c ∈ cs, Cls K (ga K c.str)
  no : ∀ c ∈ cs, ∀ f ∈ c.flds, NoAttr K (ga K c.str) f.str
theorem idx_ne {g f : Fd} {fs : List Fd} (h : ¬ g = f) : (g :: fs).idxOf f = fs.idxOf f + 1 := by
  rw [List.idxOf_cons, beq_eq_false_iff_ne.mpr h]
  rfl
theorem zip_lookup : ∀ (fs : List Fd) (vs : List V) (f : Fd) (v : V), vs[fs.idxOf f]? = some v → fs.idxOf f < fs.length → ((fs.map Fd.str).zip vs).lookup f.str = some v
  | [], _, _, _, _, h => by simp at h
  | g :: fs, [], f, v, e, _ => by simp at e
  | g :: fs, u :: vs, f, v, e, h => by
    show List.lookup f.str ((g.str, u) :: (fs.map Fd.str).zip vs) = some v
    by_cases hg : g = f
    · subst hg
      rw [List.idxOf_cons_self] at e
      rw [List.lookup_cons, beq_self_eq_true]
      simpa using e
    · have hb : (f.str == g.str) = false := beq_eq_false_iff_ne.mpr fun q => hg (Fd.inj q).symm
      rw [List.lookup_cons, hb]
      rw [idx_ne hg] at e h
      exact zip_lookup fs vs f v (by simpa using e) (by simpa using h)
theorem zip_none : ∀ (fs : List Fd) (vs : List V) (m : Str), (∀ f ∈ fs, f.str ≠ m) → ((fs.map Fd.str).zip vs).lookup m = none
  | [], _, _, _ => rfl
  | g :: fs, [], m, _ => rfl
  | g :: fs, u :: vs, m, h => by
    show List.lookup m ((g.str, u) :: (fs.map Fd.str).zip vs) = none
    have hb : (m == g.str) = false := beq_eq_false_iff_ne.mpr fun q => h g List.mem_cons_self q.symm
    rw [List.lookup_cons, hb]
    exact zip_none fs vs m fun f hf => h f (List.mem_cons_of_mem _ hf)
/-- an object: its class, its fields -/
def obOf (M : Mem) : D → Option (Cn × List D)
  | .v (.obj c xs) => some (c, xs.map D.v)
  | .cell i => (match M[i]? with
    | some (some (.obj c ds)) => some (c, ds)
    | _ => none)
  | _ => none
theorem ob_at {c : CS} {M : Mem} (ok : S.Ok c M) {d : D} {v : V} {k : Cn} {ds : List D} (r : S.Vd c d v) (h : obOf M d = some (k, ds)) : ∃ a dx vs, v = .ref a ∧ c.H a = some (.ins (ga S.K k.str) dx (fz k vs)) ∧ k ∈ S.cs ∧ ds.length ≤ k.flds.length ∧ S.Ld c ds vs := by
  cases d with
  | v x =>
    cases x with
    | obj k' xs =>
      cases h
      obtain ⟨a, dx, vs, e, h1, h2, h3, h4⟩ := r
      exact ⟨a, dx, vs, e, ok.rl.same _ _ h1, h2, by simpa using h3, RpL.ds h4⟩
    | _ => cases h
  | cell i =>
    unfold obOf at h
    dsimp only at h
    split at h
    · rename_i k' xs m
      cases h
      obtain ⟨a, e, rfl⟩ := r
      obtain ⟨h1, o, h2, dx, vs, rfl, h3, h4, h5⟩ := ok.rl.live i a _ e m
      exact ⟨a, dx, vs, rfl, h2, h3, h4, h5⟩
    · cases h
  | exn _ => cases h
def dFld (a : DE) (f : Fd) : DE := fun ds M Q => a ds M fun x M1 => ∃ k ys y, obOf M1 x = some (k, ys) ∧ ys[k.ix f]? = some y ∧ Q y M1
theorem sim_fld {f : Fd} (hc : CsOk S.K S.cs) (ha : SimE S ta da) : SimE S (tFld S.K ta f.str) (dFld da f) := fun c M σ ds Q Qd ok rs q po =>
  ha c M σ ds _ _ ok rs q fun c1 M1 v1 d1 s1 r1 p1 ⟨k, ys, y, h, hy, q1⟩ => by
    obtain ⟨a, dx, vs, rfl, h1, h2, h3, h4⟩ := ob_at (ok.step s1 r1) p1 h
    obtain ⟨u, g1, g2⟩ := h4.get hy
    have hl : k.ix f < k.flds.length := Nat.lt_of_lt_of_le (List.getElem?_eq_some_iff.mp hy).1 h3
    exact ⟨a, _, dx, _, u, rfl, h1, hc.cl k h2, hc.no k h2 f (List.idxOf_lt_length_iff.mp hl), zip_lookup _ _ _ _ g1 hl, po_v (ok.step s1 r1) (po.step s1) g2 q1⟩
theorem zip_put : ∀ (fs : List Fd) (vs : List V) (f : Fd) (v : V), fs.Nodup → fs.idxOf f < fs.length → fs.idxOf f ≤ vs.length → vs.length ≤ fs.length →
    putF f.str v ((fs.map Fd.str).zip vs) = (fs.map Fd.str).zip (if fs.idxOf f < vs.length then vs.set (fs.idxOf f) v else vs ++ [v])
  | [], _, _, _, _, h, _, _ => by simp at h
  | g :: fs, [], f, v, nd, h, hi, _ => by
    by_cases hg : g = f
    · subst hg
      rw [List.idxOf_cons_self]
      show putF g.str v [] = (g.str :: fs.map Fd.str).zip [v]
      rw [List.zip_cons_cons, List.zip_nil_right]
      rfl
    · rw [idx_ne hg] at hi
      simp at hi
  | g :: fs, u :: vs, f, v, nd, h, hi, hl => by
    show putF f.str v ((g.str, u) :: (fs.map Fd.str).zip vs) = _
    rw [show putF f.str v ((g.str, u) :: (fs.map Fd.str).zip vs) = (if g.str = f.str then (g.str, v) :: (fs.map Fd.str).zip vs else (g.str, u) :: putF f.str v ((fs.map Fd.str).zip vs)) from rfl]
    by_cases hg : g = f
    · subst hg
      rw [if_pos rfl, List.idxOf_cons_self, if_pos (by simp)]
      rfl
    · rw [if_neg fun q => hg (Fd.inj q)]
      rw [idx_ne hg] at h hi ⊢
      rw [zip_put fs vs f v (List.nodup_cons.mp nd).2 (by simpa using h) (by simpa using hi) (by simpa using hl)]
      by_cases hlt : fs.idxOf f < vs.length
      · rw [if_pos hlt, if_pos (by simpa using hlt)]
        rfl
      · rw [if_neg hlt, if_neg (by simpa using hlt)]
        rfl
def setF (ds : List D) (i : Nat) (d : D) : List D := if i < ds.length then ds.set i d else ds ++ [d]
def dStF (o a : DE) (f : Fd) : DS := fun E ds M => a ds M fun y M1 => o ds M1 fun x M2 => ∃ i k ys, x = .cell i ∧ M2[i]? = some (some (.obj k ys)) ∧ k.ix f ≤ ys.length ∧ k.ix f < k.flds.length ∧ E.nx ds (M2.set i (some (.obj k (setF ys (k.ix f) y))))
theorem flds_lt (k : Cn) : k.flds.length < 100 := by cases k <;> decide
theorem fz_len (k : Cn) (vs : List V) : (fz k vs).length < 1000 := by
  unfold fz
  rw [List.length_zip, List.length_map]
  have := flds_lt k
  omega
theorem sim_stf {f : Fd} (hc : CsOk S.K S.cs) (ho : SimE S tb db) (ha : SimE S ta da) : SimS S (sFld S.K tb ta f.str) (dStF db da f) := fun c M σ ds E Ed ok rs q po =>
  ha c M σ ds _ _ ok rs q fun c1 M1 v1 d1 s1 r1 p1 q1 => ho c1 M1 σ ds _ _ (ok.step s1 r1) (rs.step s1) q1 fun c2 M2 v2 d2 s2 r2 p2 ⟨i, k, ys, e, m, hi, hf, q2⟩ => by
    subst e
    obtain ⟨a, e, rfl⟩ := p2
    obtain ⟨h1, o, h2, dx, vs, rfl, h3, h4, h5⟩ := r2.live i a _ e m
    have hl := h5.len
    have eq := zip_put k.flds vs f v1 k.nodup hf (by rw [← hl]; exact hi) (by rw [← hl]; exact h4)
    have pd : RpD S.K S.cs c2.F c2.ρ d1 v1 := Sc.Vd.step p1 s2
    obtain ⟨r3, s3⟩ := r2.setc e m (y := .obj k (setF ys (k.ix f) d1)) (o := .ins (ga S.K k.str) dx (putF f.str v1 (fz k vs))) (by
      refine ⟨dx, _, by unfold fz; rw [eq], h3, ?_, ?_⟩
      · unfold setF
        split
        · simpa using h4
        · rename_i hn
          have : k.ix f = ys.length := by omega
          simp
          omega
      · unfold setF
        show A2 _ _ (if k.ix f < vs.length then vs.set (k.ix f) v1 else vs ++ [v1])
        rw [← hl]
        split
        · exact h5.set pd _
        · exact h5.append (.cons pd .nil))
    exact ⟨a, _, dx, _, rfl, h2, hc.cl k h3, hc.no k h3 f (List.idxOf_lt_length_iff.mp hf), fz_len k vs, po.nx ⟨_, _, _⟩ _ σ ds ((s1.trans s2).trans s3) r3 (((rs.step s1).step s2).step s3) q2⟩
/-- o.m(..): the def by the class of o -/
def tMethN (okC : Addr → Sp → Prop) (m : Str) (dvs : List V) (E : XK) (ta : TE) (t : TA) : TE := fun σ H Q => ta σ H fun x H1 => ∃ a C dx fs sp, x = .ref a ∧ H1 a = some (.ins C dx fs) ∧ okC C sp ∧ fs.lookup m = none ∧ t σ H1 fun vs H2 => sp (x :: (vs ++ dvs)) H2 Q E
structure MethOk (P : Program) (w : World) (K : PySem.W.Frag) (mg : Str → Option Value) (base : Heap) (CX : CXT) (k : Nat) (m : Str) (C : Addr) (sp : Sp) (dvs : List V) : Prop where
  cl : Cls K C
  ex : ∃ f fd ps ds, Meth K C m f ∧ FnOk P w K mg base CX k f fd ps sp ∧ Binds K fd ps ds ∧ Vals dvs ds
section
variable {X : Cx} {CX : CXT} {k : Nat} {okC : Addr → Sp → Prop} {dvs : List V} {E : XK} {m : Str} {pos apos : Pos} {e o : Expr} {es : List Expr} {ta : TE} {t : TA}
theorem pe_methN {pl : Sem Bool} (he : PE X o ta) (hk : ∀ C sp, okC C sp → MethOk X.prog X.w X.K X.mg X.base CX k m C sp dvs) (hr : Room k X.A) (hx : Passes CX X E) (ha : PA X (e :: es) t)
    (hst : starEach (e :: es) X.env = (false, eval e X.env) :: starEach es X.env := by rfl) (hpl : (backTo pos (starEach es X.env)).any (·.1) = false := by rfl)
    (ht : eval (.Call (.Attribute o m apos) (e :: es) [] pos) X.env = (do
      let ov ← eval o X.env
      standAt apos.atName
      let (f, first) ← holding [ov] (getMethod ov m pl)
      callWith pos f first (backTo pos (starEach (e :: es) X.env)) (backToKw pos (keywordEach [] X.env))) := by rfl) :
    PE X (.Call (.Attribute o m apos) (e :: es) [] pos) (tMethN okC m dvs E ta t) := by
  refine ⟨fun pins s σ H Q I h => ?_⟩
  refine PySem.W.methodCall_KW (pl := pl) (thn (he.run pins s σ H _ I h) fun u s1 ⟨x, H1, I1, rx, a, C, dx, fs, sp, ex, ea, hc, l, q⟩ => ?_) ht
  obtain ⟨c, f, fd, ps, ds, hm, F, hb, hd⟩ := hk C sp hc
  subst ex
  obtain rfl : u = Value.ref a := rx
  refine getmeth_ok I1 ea c hm l ?_
  refine PySem.W.callWith_K (first := [.ref a]) (h₀ := X.base) I.ok.mod.kin hm.kp (thn (ha.run pos pins s1 σ H1 _ I1 q) fun us s2 ⟨vs, H2, I2, r, q2⟩ => ⟨I2.kIn, ?_⟩) hst hpl
  exact run_fn (us := .ref a :: us) (vs := .ref a :: vs) F hr hb hd hx I2 (.cons rfl r) q2
end
/-- the classes that have such a def -/
def okM (K : PySem.W.Frag) (cs : List Cn) (g : Cn → Option DSp) (C : Addr) (sp : Sp) : Prop := ∃ k ∈ cs, C = ga K k.str ∧ ∃ q, g k = some q ∧ sp = spD K cs q
def dMeth (g : Cn → Option DSp) (dv : List PV) (Ed : DX) (o : DE) (a : DA) : DE := fun ds M Q => o ds M fun x M1 => ∃ k ys sp, obOf M1 x = some (k, ys) ∧ g k = some sp ∧ a ds M1 fun xs M2 => sp (x :: (xs ++ dv.map D.v)) M2 Q Ed
theorem sim_meth {m : Str} {g : Cn → Option DSp} {E : XK} {Ed : DX} {dv : List PV} {vv : List V} (hd : ∀ F, RpL S.K S.cs F dv vv) (px : PoX S S.c0 S.M0 Ed E) (hm : ∀ k, (g k).isSome = true → ∀ f ∈ k.flds, f.str ≠ m) (ho : SimE S tb db) (ha : SimA S tr dr) :
    SimE S (tMethN (okM S.K S.cs g) m vv E tb tr) (dMeth g dv Ed db dr) := fun c M σ ds Q Qd ok rs q po =>
  ho c M σ ds _ _ ok rs q fun c1 M1 v1 d1 s1 r1 p1 ⟨k, ys, sp, h, hg, q1⟩ => by
    obtain ⟨a, dx, vs, e, h1, h2, h3, h4⟩ := ob_at (ok.step s1 r1) p1 h
    refine ⟨a, _, dx, _, _, e, h1, ⟨k, h2, rfl, sp, hg, rfl⟩, zip_none _ _ _ (hm k (by rw [hg]; rfl)), ha c1 M1 σ ds _ _ (ok.step s1 r1) (rs.step s1) q1 fun c2 M2 v2 d2 s2 r2 p2 q2 => ?_⟩
    exact sp_run ((ok.step s1 r1).step s2 r2) (.cons (Sc.Vd.step p1 s2) (p2.append (RpL.ds (hd c2.F)))) q2 (po.step (s1.trans s2)) px
/-- an instance called -/
def dCallI (g : Cn → Option DSp) (Ed : DX) (o : DE) (a : DA) : DE := fun ds M Q => o ds M fun x M1 => (∃ k ys, obOf M1 x = some (k, ys)) ∧ a ds M1 fun xs M2 => ∃ k ys sp, obOf M2 x = some (k, ys) ∧ g k = some sp ∧ sp (x :: xs) M2 Q Ed
/-- behind an __init__: the object is frozen -/
def mkQ (k : Cn) (M : Mem) (Q : DQ) : DQ := fun d M2 => d = .v .non ∧ ∃ ys ps, M2[M.length]? = some (some (.obj k ys)) ∧ pures ys = some ps ∧ Exit M (M2.set M.length none) ∧ Q (.v (.obj k ps)) ((M2.set M.length none).take M.length)
/-- C(..), the object is frozen then -/
def dMake (k : Cn) (g : DSp) (dv : List PV) (Ed : DX) (a : DA) : DE := fun ds M Q => a ds M fun xs M1 => g (.cell M1.length :: (xs ++ dv.map D.v)) (M1 ++ [some (.obj k [])]) (mkQ k M1 Q) (xExit M1 Ed)
theorem Rel.newo {K : PySem.W.Frag} {cs : List Cn} {c : CS} {M : Mem} (r : Rel K cs c M) {k : Cn} (hk : k ∈ cs) {x dx : Addr} (hx : c.H x = none) (hd : c.H dx = none) (ne : dx ≠ x) :
    Rel K cs ⟨c.F, c.ρ ++ [x], upd (upd c.H dx (.own x)) x (.ins (ga K k.str) dx [])⟩ (M ++ [some (.obj k [])]) ∧ Step c M ⟨c.F, c.ρ ++ [x], upd (upd c.H dx (.own x)) x (.ins (ga K k.str) dx [])⟩ (M ++ [some (.obj k [])]) := by
  obtain ⟨r1, s1⟩ := r.beside hd (.own x)
  have hx' : upd c.H dx (.own x) x = none := by rw [upd_ne (Ne.symm ne)]; exact hx
  obtain ⟨r2, s2⟩ := r1.newc (p := x) hx' (x := .obj k []) (o := .ins (ga K k.str) dx []) ⟨dx, [], by unfold fz; rw [List.zip_nil_right], hk, Nat.zero_le _, .nil⟩
  exact ⟨r2, s1.trans s2⟩
theorem sim_make {k : Cn} {g : DSp} {dv : List PV} {vv : List V} {E : XK} {Ed : DX} (hk : k ∈ S.cs) (hd : ∀ F, RpL S.K S.cs F dv vv) (px : PoX S S.c0 S.M0 Ed E) (ha : SimA S tr dr) : SimE S (tMake (ga S.K k.str) (spD S.K S.cs g) vv E tr) (dMake k g dv Ed dr) := fun c M σ ds Q Qd ok rs q po =>
  ha c M σ ds _ _ ok rs q fun c1 M1 v1 d1 s1 r1 p1 q1 => by
    intro x dx hx hdx ne
    obtain ⟨r2, s2⟩ := r1.newo hk hx hdx ne
    have ok1 := ok.step s1 r1
    have get : (c1.ρ ++ [x])[M1.length]? = some x := by rw [← r1.len]; simp
    refine ⟨⟨c1.F, c1.ρ ++ [x], upd (upd c1.H dx (.own x)) x (.ins (ga S.K k.str) dx [])⟩, M1 ++ [some (.obj k [])], .cell M1.length :: (d1 ++ dv.map D.v), _, _, rfl, r2, .cons ⟨x, get, rfl⟩ ((Sc.Ld.step p1 s2).append (RpL.ds (hd _))), q1, fun c3 M3 v3 d3 s3 r3 p3 ⟨e3, ys, ps, m3, hp, hex, q3⟩ => ?_, fun c3 M3 cls d e s3 r3 p3 ⟨hex, q3⟩ => ?_⟩
    · subst e3
      cases (show v3 = .non from p3)
      refine ⟨rfl, ?_⟩
      have e3 : c3.ρ[M1.length]? = some x := get_pre s3.pre get
      obtain ⟨o, h1, h2, h3, r4, s4⟩ := r3.freeze e3 m3
      obtain ⟨dx', vs', rfl, h5, h6, h7⟩ := h2
      obtain ⟨r5, s5, e5⟩ := r1.cut r4 (s2.trans (s3.trans s4)) hex
      refine po ⟨upd c3.F x (.ins (ga S.K k.str) dx' (fz k vs')), c3.ρ.take M1.length, c3.H⟩ _ (.ref x) (.v (.obj k ps)) (s1.trans s5) r5 ?_ q3
      refine ⟨x, dx', vs', rfl, upd_same, hk, ?_, RpL.same (same_upd h3) _ _ (ld_pure h7 hp)⟩
      rw [pures_eq hp] at h6
      simpa using h6
    · obtain ⟨r5, s5, e5⟩ := r1.cut r3 (s2.trans s3) hex
      exact px ⟨c3.F, c3.ρ.take M1.length, c3.H⟩ _ cls d e (ok1.st.trans s5) r5 p3 q3
/-! ### cells are frozen -/
def frz (M : Mem) : D → Option (PV × Mem)
  | .v x => some (x, M)
  | .cell i => (match M[i]? with
    | some (some (.lst ds)) => (pures ds).map fun xs => (.lst xs, M.set i none)
    | some (some (.obj k ds)) => (pures ds).map fun xs => (.obj k xs, M.set i none)
    | _ => none)
  | .exn _ => none
def dFrz (a : DE) : DE := fun ds M Q => a ds M fun x M1 => ∃ y M2, frz M1 x = some (y, M2) ∧ Q (.v y) M2
theorem sim_frz (ha : SimE S ta da) : SimE S ta (dFrz da) := fun c M σ ds Q Qd ok rs q po =>
  ha c M σ ds _ _ ok rs q fun c1 M1 v1 d1 s1 r1 p1 ⟨y, M2, h, q1⟩ => by
    cases d1 with
    | v x =>
      cases (show some (x, M1) = some (y, M2) from h)
      exact po c1 M1 v1 (.v y) s1 r1 p1 q1
    | cell i =>
      obtain ⟨a, e, rfl⟩ := p1
      unfold frz at h
      dsimp only at h
      split at h
      · rename_i ds' m
        cases hp : pures ds' with
        | none => rw [hp] at h; cases h
        | some xs =>
          rw [hp] at h
          cases h
          obtain ⟨o, h1, h2, h3, r4, s4⟩ := r1.freeze e m
          obtain ⟨vs', rfl, h7⟩ := h2
          exact po ⟨upd c1.F a (.lst vs'), c1.ρ, c1.H⟩ _ _ (.v (.lst xs)) (s1.trans s4) r4 ⟨a, vs', rfl, upd_same, RpL.same (same_upd h3) _ _ (ld_pure h7 hp)⟩ q1
      · rename_i k ds' m
        cases hp : pures ds' with
        | none => rw [hp] at h; cases h
        | some xs =>
          rw [hp] at h
          cases h
          obtain ⟨o, h1, h2, h3, r4, s4⟩ := r1.freeze e m
          obtain ⟨dx', vs', rfl, h5, h6, h7⟩ := h2
          refine po ⟨upd c1.F a (.ins (ga S.K k.str) dx' (fz k vs')), c1.ρ, c1.H⟩ _ _ (.v (.obj k xs)) (s1.trans s4) r4 ⟨a, dx', vs', rfl, upd_same, h5, ?_, RpL.same (same_upd h3) _ _ (ld_pure h7 hp)⟩ q1
          rw [pures_eq hp] at h6
          simpa using h6
      · cases h
    | exn _ => cases h
/-! ### x[i] = y -/
def hSub (o i : DE) : DG := fun y ds M Q => o ds M fun x M1 => i ds M1 fun j M2 => ∃ k es n l, x = .cell k ∧ j = vI n ∧ M2[k]? = some (some (.lst es)) ∧ ixN es.length n = some l ∧ Q ds (M2.set k (some (.lst (es.set l y))))
theorem sim_gsub (ho : SimE S ta da) (hi : SimE S tb db) : SimG S (gSub ta tb rSetL) (hSub da db) := fun c M σ ds y v Q Qd ok rs rv q po =>
  ho c M σ ds _ _ ok rs q fun c1 M1 v1 d1 s1 r1 p1 q1 => hi c1 M1 σ ds _ _ (ok.step s1 r1) (rs.step s1) q1 fun c2 M2 v2 d2 s2 r2 p2 ⟨k, es, n, l, e1, e2, m, hl, q2⟩ => by
    subst e1 e2
    obtain ⟨a, e, rfl⟩ := Sc.Vd.step p1 s2
    cases (show v2 = .int n from p2)
    obtain ⟨h1, o, h2, ws, rfl, h3⟩ := r2.live k a _ e m
    have rv2 : RpD S.K S.cs c2.F c2.ρ y v := Sc.Vd.step (Sc.Vd.step rv s1) s2
    obtain ⟨r3, s3⟩ := r2.setc e m (y := .lst (es.set l y)) (o := .lst (ws.set l v)) ⟨_, rfl, h3.set rv2 _⟩
    exact ⟨a, ws, n, l, rfl, rfl, h2, by rw [← h3.len]; exact hl, po ⟨_, _, _⟩ _ σ ds ((s1.trans s2).trans s3) r3 (((rs.step s1).step s2).step s3) q2⟩
/-! ### comprehensions -/
def wipeD (ds : DSt) : List Nat → DSt
  | [] => ds
  | v :: vs => (wipeD ds vs).set v none
theorem wipe_rp {c : CS} {ds : DSt} {σ : L2.St} (r : S.St c ds σ) : ∀ vs : List Nat, S.St c (wipeD ds vs) (wipe σ vs)
  | [] => r
  | v :: vs => (wipe_rp r vs).wipe1 v
def dComp (g : DG) (t : DT) (e : DE) (ds0 : DSt) (Q : List PV → Mem → Prop) : List D → List PV → Mem → Prop
  | [], acc, M => Q acc M
  | x :: xs, acc, M => g x ds0 M fun ds2 M2 => t ds2 M2 fun b M3 => if b = true then e ds2 M3 fun y M4 => ∃ z, y = .v z ∧ acc.length < sizeLine ∧ dComp g t e ds0 Q xs (acc ++ [z]) M4 else dComp g t e ds0 Q xs acc M3
def dLc (it : DI) (g : DG) (t : DT) (e : DE) (vs : List Nat) : DE := fun ds M Q => it ds M fun xs M1 => dComp g t e (wipeD ds vs) (fun acc M2 => Q (vL acc) M2) xs [] M1
def dYes : DT := fun _ M Q => Q true M
theorem sim_yes : SimT S tYes dYes := fun c M σ ds Q Qd ok rs q po => po c M true (Step.refl _ _) ok.rl q
/-- a target stores in its own slots alone -/
def GOwn (g : TG) (vs : List Nat) : Prop := ∀ x σ H Q, g x (wipe σ vs) H Q → g x (wipe σ vs) H fun σ2 H2 => wipe σ2 vs = wipe σ vs ∧ Q σ2 H2
theorem wipe_wipe1 (σ : L2.St) (i : Nat) (v : Option V) : wipe ((wipe σ [i]).set i v) [i] = wipe σ [i] := by
  show ((σ.set i none).set i v).set i none = σ.set i none
  rw [List.set_set, List.set_set]
theorem gown_name (i : Nat) : GOwn (gName i) [i] := fun x σ H Q h => ⟨wipe_wipe1 σ i _, h⟩
theorem sim_lc {ti : TI} {di : DI} {g : TG} {dg : DG} {vs : List Nat} (own : GOwn g vs) (hi : SimI S ti di) (hg : SimG S g dg) (ht : SimT S tt dt) (he : SimE S te de) : SimE S (tLc ti g tt te vs) (dLc di dg dt de vs) := fun c M σ ds Q Qd ok rs q po =>
  hi c M σ ds _ _ ok rs q fun c1 M1 J xs s1 r1 wk q1 => by
    intro P hP
    have ok1 := ok.step s1 r1
    obtain ⟨r2, s2⟩ := r1.beside hP (.lst [])
    have rs1 := rs.step s1
    obtain ⟨hPF, hPρ⟩ := r1.fresh hP
    -- the state at a turn
    refine ⟨fun i m H' => ∃ c2 M2 acc vs2, c2.H = H' ∧ m = xs.length - i ∧ i ≤ xs.length ∧ Step c1 M1 c2 M2 ∧ Rel S.K S.cs c2 M2 ∧ c2.H P = some (.lst vs2) ∧ c2.F P = none ∧ ¬ Live c2.ρ M2 P ∧ RpL S.K S.cs c2.F acc vs2 ∧ dComp dg dt de (wipeD ds vs) (fun acc M2 => Qd (vL acc) M2) (xs.drop i) acc M2,
      ⟨xs.length, ⟨c1.F, c1.ρ, upd c1.H P (.lst [])⟩, M1, [], [], rfl, rfl, Nat.zero_le _, s2, r2, upd_same, hPF, r1.nlive hP, (rfl : ([] : List V) = []), q1⟩, ?_⟩
    rintro i m H' ⟨c2, M2, acc, vs2, rfl, rfl, hi, s2, r2, hP1, hP2, hP3, ra, q2⟩
    obtain ⟨w1, w2⟩ := wk i c2 M2 s2.same s2.pre r2
    by_cases hlt : i < xs.length
    · obtain ⟨g1, g2⟩ := w2 xs[i] (by simp [hlt])
      rw [List.drop_eq_getElem_cons hlt] at q2
      refine Or.inr ⟨g1, fun H'' => ∃ c3 M3 acc3 vs3, c3.H = H'' ∧ Step c1 M1 c3 M3 ∧ Rel S.K S.cs c3 M3 ∧ c3.H P = some (.lst vs3) ∧ c3.F P = none ∧ ¬ Live c3.ρ M3 P ∧ RpL S.K S.cs c3.F acc3 vs3 ∧ dComp dg dt de (wipeD ds vs) (fun acc M2 => Qd (vL acc) M2) (xs.drop (i + 1)) acc3 M3,
        fun H'' ⟨c3, M3, acc3, vs3, e, s3, r3, h1, h2, h3, h4, h5⟩ => ⟨xs.length - (i + 1), by omega, c3, M3, acc3, vs3, e, rfl, hlt, s3, r3, h1, h2, h3, h4, h5⟩, fun x H'' hy => own _ _ _ _ ?_⟩
      obtain ⟨c3, rfl, s3, r3, p3⟩ := g2 x H'' hy
      have ok2 := ok1.step s2 r2
      have rs3 : S.St c3 (wipeD ds vs) (wipe σ vs) := wipe_rp ((rs1.step s2).step s3) vs
      have okP3 := s3.frame P _ hP1 hP2 hP3
      refine hg c3 M2 (wipe σ vs) (wipeD ds vs) _ _ _ _ (ok2.step s3 r3) rs3 p3 q2 fun c4 M4 σ4 ds4 s4 r4 p4 q4 => ?_
      have okP4 := s4.frame P _ okP3.1 okP3.2.1 okP3.2.2
      have ok4 := (ok2.step s3 r3).step s4 r4
      refine ht c4 M4 σ4 ds4 _ _ ok4 p4 q4 fun c5 M5 b s5 r5 q5 => ?_
      have okP5 := s5.frame P _ okP4.1 okP4.2.1 okP4.2.2
      have st5 : Step c1 M1 c5 M5 := s2.trans (s3.trans (s4.trans s5))
      cases b with
      | false => exact ⟨c5, M5, acc, vs2, rfl, st5, r5, okP5.1, okP5.2.1, okP5.2.2, RpL.same (s3.same.trans (s4.same.trans s5.same)) _ _ ra, q5⟩
      | true =>
        refine he c5 M5 σ4 ds4 _ _ (ok4.step s5 r5) (p4.step s5) q5 fun c6 M6 v6 d6 s6 r6 p6 ⟨z, e6, hl, q6⟩ => ?_
        subst e6
        have okP6 := s6.frame P _ okP5.1 okP5.2.1 okP5.2.2
        have ra6 := RpL.same (K := S.K) (cs := S.cs) (s3.same.trans (s4.same.trans (s5.same.trans s6.same))) _ _ ra
        refine ⟨vs2, okP6.1, by rw [← ra.len]; exact hl, ⟨c6.F, c6.ρ, upd c6.H P (.lst (vs2 ++ [v6]))⟩, M6, acc ++ [z], vs2 ++ [v6], rfl, ?_, r6.beside_set okP6.1 okP6.2.1 okP6.2.2 _, upd_same, okP6.2.1, okP6.2.2, (ra6.a2.append (.cons p6 .nil)).rpL, q6⟩
        have st6 := st5.trans s6
        refine ⟨st6.same, st6.pre, fun a o h1 h2 h3 => ?_⟩
        obtain ⟨k1, k2, k3⟩ := st6.frame a o h1 h2 h3
        have hne : a ≠ P := fun z => by rw [z, hP] at h1; cases h1
        exact ⟨by show upd c6.H P (.lst (vs2 ++ [v6])) a = some o; rw [upd_ne hne]; exact k1, k2, k3⟩
    · have e : xs.length = i := by omega
      rw [← e, List.drop_length] at q2
      refine Or.inl ⟨w1 e, ?_⟩
      have r3 := r2.beside_lay hP1 hP2 hP3
      have sF : Same c2.F (upd c2.F P (.lst vs2)) := same_upd hP2
      refine po ⟨upd c2.F P (.lst vs2), c2.ρ, c2.H⟩ M2 (.ref P) (vL acc) (s1.trans ⟨s2.same.trans sF, s2.pre, fun a o h1 h2 h3 => ?_⟩) r3 ⟨P, vs2, rfl, upd_same, RpL.same sF _ _ ra⟩ q2
      obtain ⟨k1, k2, k3⟩ := s2.frame a o h1 h2 h3
      have hne : a ≠ P := fun z => by rw [z, hP] at h1; cases h1
      exact ⟨k1, by show upd c2.F P (.lst vs2) a = none; rw [upd_ne hne]; exact k2, k3⟩
end
end Cl
/-! The layer of values, part 6: raise, try, dicts, f-strings, isinstance, constants of classes. -/
namespace Cl
open PySem PySem.Spec PyProof.Rows L2 He ClX
open StX (CallO callO_with)
section
variable {S : Sc}
variable {te ta tb : TE} {da db de : DE} {tt tu : TT} {dt du : DT} {tr : TA} {dr : DA} {ts us : TS} {dss dus : DS}
/-! ### raise -/
def dRaise (k : Cn) (Ed : DX) (a : DA) : DS := fun _ ds M => a ds M fun xs M1 => ∃ ps, pures xs = some ps ∧ ps.length = k.flds.length ∧ Ed ⟨k, ps⟩ M1
theorem sim_raise1 {k : Cn} {f : Fd} {E : XK} {Ed : DX} (hf : k.flds = [f]) (px : PoX S S.c0 S.M0 Ed E) (ha : SimA S tr dr) : SimS S (tRaiseE E (ga S.K k.str) (spX1 (ga S.K k.str) f.str) tr) (dRaise k Ed dr) := fun c M σ ds D' Dd ok rs q po =>
  ha c M σ ds _ _ ok rs q fun c1 M1 v1 d1 s1 r1 p1 ⟨ps, hp, hl, q1⟩ => by
    rw [hf] at hl
    match ps, hl with
    | [x], _ =>
      obtain rfl := pures_eq hp
      obtain ⟨v, rfl, rv⟩ := ld1 p1
      have key := s_raise1 (E := E) (C := ga S.K k.str) (f := f.str) (v := v) (D := D') (σ := σ) (H := c1.H) fun d hd => by
        obtain ⟨r2, s2⟩ := r1.lay hd (.xd [(f.str, v)])
        refine px ⟨upd c1.F d (.xd [(f.str, v)]), c1.ρ, upd c1.H d (.xd [(f.str, v)])⟩ M1 _ _ ⟨k, [x]⟩ ((ok.step s1 r1).st.trans s2) r2 ⟨rfl, d, [v], rfl, ?_, _, _, rfl, Rp.same s2.same _ _ rv, rfl⟩ q1
        show upd c1.F d _ d = _
        rw [upd_same]
        show _ = some (HO.xd ((k.flds.map Fd.str).zip [v]))
        rw [hf]
        rfl
      exact key
/-! ### try .. except X as e -/
/-- a call within a try -/
def dCallS (g : DSp) (W : DSt → DX) (a : DA) : DE := fun ds M Q => a ds M fun xs M1 => g xs M1 Q (W ds)
def PoW (S : Sc) (Wd : DSt → DX) (W : WX) : Prop := ∀ c M σ ds cls d e, S.Ok c M → S.St c ds σ → RpX S.K S.cs c e cls d → Wd ds e M → W cls d σ c.H
theorem pow_x {Wd : DSt → DX} {W : WX} (pw : PoW S Wd W) {c : CS} {M : Mem} {σ : L2.St} {ds : DSt} (ok : S.Ok c M) (rs : S.St c ds σ) : PoX S c M (Wd ds) (WE W σ) := fun c' M' cls d e s r p q => pw c' M' σ ds cls d e (ok.step s r) (rs.step s) p q
def dCallIS (g : Cn → Option DSp) (W : DSt → DX) (o : DE) (a : DA) : DE := fun ds M Q => o ds M fun x M1 => (∃ k ys, obOf M1 x = some (k, ys)) ∧ a ds M1 fun xs M2 => ∃ k ys sp, obOf M2 x = some (k, ys) ∧ g k = some sp ∧ sp (x :: xs) M2 Q (W ds)
/-- C(..) within a try -/
def dMakeS (k : Cn) (g : DSp) (dv : List PV) (W : DSt → DX) (a : DA) : DE := fun ds M Q => a ds M fun xs M1 => g (.cell M1.length :: (xs ++ dv.map D.v)) (M1 ++ [some (.obj k [])]) (mkQ k M1 Q) (xExit M1 (W ds))
theorem sim_makeS {k : Cn} {g : DSp} {dv : List PV} {vv : List V} {W : WX} {Wd : DSt → DX} (hk : k ∈ S.cs) (hd : ∀ F, RpL S.K S.cs F dv vv) (pw : PoW S Wd W) (ha : SimA S tr dr) : SimE S (tMakeS (ga S.K k.str) (spD S.K S.cs g) vv (WE W) tr) (dMakeS k g dv Wd dr) := fun c M σ ds Q Qd ok rs q po =>
  ha c M σ ds _ _ ok rs q fun c1 M1 v1 d1 s1 r1 p1 q1 => by
    intro x dx hx hdx ne
    obtain ⟨r2, s2⟩ := r1.newo hk hx hdx ne
    have ok1 := ok.step s1 r1
    have get : (c1.ρ ++ [x])[M1.length]? = some x := by rw [← r1.len]; simp
    refine ⟨⟨c1.F, c1.ρ ++ [x], upd (upd c1.H dx (.own x)) x (.ins (ga S.K k.str) dx [])⟩, M1 ++ [some (.obj k [])], .cell M1.length :: (d1 ++ dv.map D.v), _, _, rfl, r2, .cons ⟨x, get, rfl⟩ ((Sc.Ld.step p1 s2).append (RpL.ds (hd _))), q1, fun c3 M3 v3 d3 s3 r3 p3 ⟨e3, ys, ps, m3, hp, hex, q3⟩ => ?_, fun c3 M3 cls d e s3 r3 p3 ⟨hex, q3⟩ => ?_⟩
    · subst e3
      cases (show v3 = .non from p3)
      refine ⟨rfl, ?_⟩
      have e3 : c3.ρ[M1.length]? = some x := get_pre s3.pre get
      obtain ⟨o, h1, h2, h3, r4, s4⟩ := r3.freeze e3 m3
      obtain ⟨dx', vs', rfl, h5, h6, h7⟩ := h2
      obtain ⟨r5, s5, e5⟩ := r1.cut r4 (s2.trans (s3.trans s4)) hex
      refine po ⟨upd c3.F x (.ins (ga S.K k.str) dx' (fz k vs')), c3.ρ.take M1.length, c3.H⟩ _ (.ref x) (.v (.obj k ps)) (s1.trans s5) r5 ?_ q3
      refine ⟨x, dx', vs', rfl, upd_same, hk, ?_, RpL.same (same_upd h3) _ _ (ld_pure h7 hp)⟩
      rw [pures_eq hp] at h6
      simpa using h6
    · obtain ⟨r5, s5, e5⟩ := r1.cut r3 (s2.trans s3) hex
      exact pow_x pw ok1 (rs.step s1) ⟨c3.F, c3.ρ.take M1.length, c3.H⟩ _ cls d e s5 r5 p3 q3
/-- which errors are met: those that are caught, those that are not -/
def wTry (tb : List (Cn × Bool)) (i : Nat) (s : Addr → DErr → DS) (Wo : DSt → DX) (E : DEnds) : DSt → DX := fun ds e M => ∃ b, tb.lookup e.c = some b ∧
  (b = true → ∀ a, s a e { nx := fun ds' M' => E.nx (ds'.set i none) M', rt := E.rt, bk := fun ds' M' => E.bk (ds'.set i none) M', ct := fun ds' M' => E.ct (ds'.set i none) M' } (ds.set i (some (.exn a))) M) ∧ (b = false → Wo ds e M)
def dTry (tb : List (Cn × Bool)) (i : Nat) (b : (DSt → DX) → DS) (s : Addr → DErr → DS) (Wo : DSt → DX) : DS := fun E ds M => b (wTry tb i s Wo E) E ds M
theorem lookup_mem {α : Type} {l : List (Cn × α)} {k : Cn} {b : α} (h : l.lookup k = some b) : (k, b) ∈ l := by
  induction l with
  | nil => cases h
  | cons p l ih =>
    obtain ⟨k', b'⟩ := p
    rw [List.lookup_cons] at h
    split at h
    · rename_i e
      cases h
      rw [LawfulBEq.eq_of_beq e]
      exact List.mem_cons_self
    · exact List.mem_cons_of_mem _ (ih h)
theorem RpS.unset {K : PySem.W.Frag} {cs : List Cn} {c : CS} {ds : DSt} {σ : L2.St} (h : RpS K cs c ds σ) (i : Nat) : RpS K cs c (ds.set i none) (σ.set i none) := h.wipe1 i
theorem sim_try {x : Cn} {tab : List (Cn × Bool)} {i : Nat} {tb : WX → TS} {db : (DSt → DX) → DS} {ts : Addr → Value → Option Addr → TS} {dsu : Addr → DErr → DS} {Wout : WX} {Wo : DSt → DX} (htb : ∀ k b, (k, b) ∈ tab → PySem.W.exmOne S.K (.ref (ga S.K k.str)) (.ref (ga S.K x.str)) = some b)
    (hb : ∀ c1 M1, S.Ok c1 M1 → ∀ W Wd, PoW ⟨S.K, S.cs, c1, M1⟩ Wd W → SimS ⟨S.K, S.cs, c1, M1⟩ (tb W) (db Wd)) (hs : ∀ a cls d e c1 M1, S.Ok c1 M1 → RpX S.K S.cs c1 e cls d → SimS ⟨S.K, S.cs, c1, M1⟩ (ts a cls d) (dsu a e)) (hw : PoW S Wo Wout) :
    SimS S (fun D σ H => (fun (W : WX) => tb W) (wAs S.K (.ref (ga S.K x.str)) i ts Wout D) D σ H) (dTry tab i db dsu Wo) := fun c M σ ds E Ed ok rs q po => by
  refine hb c M ok (wAs S.K (.ref (ga S.K x.str)) i ts Wout E) (wTry tab i dsu Wo Ed) ?_ c M σ ds E Ed ⟨Step.refl _ _, ok.rl⟩ rs q ⟨po.nx, po.rt, po.bk, po.ct⟩
  intro c2 M2 σ2 ds2 cls d e ok2 rs2 rx ⟨b, hl, h1, h2⟩
  have ok2' : S.Ok c2 M2 := ⟨ok.st.trans ok2.st, ok2.rl⟩
  have em := htb _ _ (lookup_mem hl)
  rw [← rx.1] at em
  refine ⟨b, em, fun hb a ha => ?_, fun hb => hw c2 M2 σ2 ds2 cls d e ok2' rs2 rx (h2 hb)⟩
  have po2 := po.step ok2.st
  exact hs a cls d e c2 M2 ok2' rx c2 M2 _ (ds2.set i (some (.exn a))) _ _ ⟨Step.refl _ _, ok2.rl⟩ (rs2.set (d := .exn a) (v := .ref a) rfl) (h1 hb a)
    ⟨fun c3 M3 σ3 ds3 s3 r3 p3 q3 => po2.nx c3 M3 _ _ s3 r3 (p3.unset i) q3, po2.rt, fun c3 M3 σ3 ds3 s3 r3 p3 q3 => po2.bk c3 M3 _ _ s3 r3 (p3.unset i) q3, fun c3 M3 σ3 ds3 s3 r3 p3 q3 => po2.ct c3 M3 _ _ s3 r3 (p3.unset i) q3⟩
/-- e.f of the caught error -/
def dXf (a : Addr) (e : DErr) (k : Cn) (f : Fd) (t : DE) : DE := fun ds M Q => t ds M fun x M1 => x = .exn a ∧ e.c = k ∧ k.ix f < k.flds.length ∧ ∃ y, e.xs[k.ix f]? = some y ∧ Q (.v y) M1
theorem sim_xf {a : Addr} {cls : Value} {d : Option Addr} {e : DErr} {k : Cn} {f : Fd} {c1 : CS} (hc : Same c1.F S.c0.F) (rx : RpX S.K S.cs c1 e cls d) (ht : SimE S te de) : SimE S (tXf a cls d (ga S.K k.str) f.str te) (dXf a e k f de) := fun c M σ ds Q Qd ok rs q po =>
  ht c M σ ds _ _ ok rs q fun c2 M2 v2 d2 s2 r2 p2 ⟨e1, e2, hl, y, hy, q2⟩ => by
    subst e1
    cases (show v2 = .ref a from p2)
    obtain ⟨h1, h2⟩ := rx
    refine ⟨rfl, by rw [h1, e2], ?_⟩
    have ok2 := ok.step s2 r2
    cases hx : e.xs with
    | nil => rw [hx] at hy; simp at hy
    | cons x xs =>
      rw [hx] at h2
      obtain ⟨dd, vs, h3, h4, h5⟩ := h2
      rw [e2] at h4
      rw [hx] at hy
      have h5' := RpL.same (hc.trans ok2.st.same) _ _ h5
      obtain ⟨v, g1, g2⟩ := h5'.a2.get hy
      exact ⟨dd, _, v, h3, r2.same _ _ (ok2.st.same _ _ (hc _ _ h4)), zip_lookup _ _ _ _ g1 hl, po_v ok2 (po.step s2) (d := .v y) g2 q2⟩
/-! ### constants -/
theorem sim_cval {k : Cn} {f : Str} {v : V} {x : PV} (cr : CRead S.K (ga S.K k.str) (.type "type")) (cv : ∃ u, CVal S.K (ga S.K k.str) (.type "type") f v u) (h : ∀ F, Rp S.K S.cs F x v) : SimE S (tCVal S.K (tC (.ref (ga S.K k.str))) f) (dC x) := fun c M σ ds Q Qd ok rs q po => by
  obtain ⟨u, cv⟩ := cv
  exact ⟨_, _, v, u, rfl, cr, cv, po_v ok po (d := .v x) (h c.F) q⟩
/-! ### dicts -/
section
variable {κ α : Type} [DecidableEq κ]
def getG (kvs : List (κ × α)) (k : κ) : Option α := (kvs.find? fun kv => decide (kv.1 = k)).map (·.2)
def putG (kvs : List (κ × α)) (k : κ) (v : α) : List (κ × α) := if (kvs.any fun kv => decide (kv.1 = k)) = true then kvs.map (fun kv => if kv.1 = k then (kv.1, v) else kv) else kvs ++ [(k, v)]
end
/-- a key -/
def kD : Key → D
  | .inl i => vI i
  | .inr z => vS z.cps.toList
def dPairs : List (DE × DE) → DSt → Mem → (List (D × D) → Mem → Prop) → Prop
  | [], _, M, Q => Q [] M
  | (a, b) :: r, ds, M, Q => a ds M fun x M1 => b ds M1 fun y M2 => dPairs r ds M2 fun ps M3 => Q ((x, y) :: ps) M3
def mergeG {α : Type} (kvs : List (Key × α)) : List (Key × α) := kvs.foldl (fun acc kv => putG acc kv.1 kv.2) []
/-- the entries of a dict -/
def dcOf (M : Mem) : D → Option (List (Key × D))
  | .v (.dct ks xs) => some (ks.zip (xs.map D.v))
  | .cell i => (match M[i]? with
    | some (some (.dct ds)) => some ds
    | _ => none)
  | _ => none
/-- d.get(k, x) -/
def dDGet2 (o a b : DE) : DE := fun ds M Q => o ds M fun x M1 => (∃ kvs, dcOf M1 x = some kvs) ∧ a ds M1 fun y M2 => b ds M2 fun z M3 => ∃ k kvs, y = kD k ∧ dcOf M3 x = some kvs ∧ Q ((getG kvs k).getD z) M3
/-! ### f'..' -/
def dFmt (a : DE) : DE := fun ds M Q => a ds M fun x M1 => (∃ z, x = vS z ∧ z.length ≤ sizeLine ∧ Q (vS z) M1) ∨ ∃ i, x = vI i ∧ i.natAbs.log2 < 1920 ∧ Q (vS (figs i)) M1
def dJs : List DE → List Nat → DSt → Mem → (List Nat → Mem → Prop) → Prop
  | [], acc, _, M, Q => Q acc M
  | a :: r, acc, ds, M, Q => a ds M fun x M1 => ∃ z, x = vS z ∧ acc.length + z.length ≤ sizeLine ∧ dJs r (acc ++ z) ds M1 Q
def dFs (es : List DE) : DE := fun ds M Q => dJs es [] ds M fun z M1 => Q (vS z) M1
/-! ### isinstance -/
/-- what a value is -/
inductive Kd where
  | c (k : Cn) | t (n : String)
def Kd.val (K : PySem.W.Frag) : Kd → Value
  | .c k => .ref (ga K k.str)
  | .t n => .type n
def kdOf (M : Mem) (d : D) : Option Kd := match d with
  | .v .non => some (.t "NoneType")
  | .v (.bl _) => some (.t "bool")
  | .v (.int _) => some (.t "int")
  | .v (.str _) => some (.t "str")
  | .v (.lst _) => some (.t "list")
  | .v (.tup _) => some (.t "tuple")
  | d => (obOf M d).map fun p => .c p.1
/-- isinstance(x, C): by a table -/
def uIsi (tab : Kd → Option Bool) (tv : PV) : DR := fun xs M Q => ∃ d k b, xs = [d, .v tv] ∧ kdOf M d = some k ∧ tab k = some b ∧ Q (vB b) M
theorem sr_isi {tab : Kd → Option Bool} {tv : PV} {cv : V} {u : Value} (hv : ∀ F, Rp S.K S.cs F tv cv) (hu : ∀ F v, Rp S.K S.cs F tv v → v = cv) (hc : ClsV cv u) (hcs : CsOk S.K S.cs) (hi : ∀ k ∈ S.cs, (tab (.c k)).isSome = true → ICls S.K (ga S.K k.str)) (ht : ∀ k b, (∀ n, k = .c n → n ∈ S.cs) → tab k = some b → PySem.W.kitOne S.K (k.val S.K) u = some b) : SimR S (zIsi S.K) (uIsi tab tv) := fun c M vs ds Q Qd ok r0 q po => by
  obtain ⟨d, k, b, rfl, hk, hb, q⟩ := q
  obtain ⟨v, w, rfl, r1, r2⟩ := ld2 r0
  have e2 := hu _ _ (show Rp S.K S.cs c.F tv w from r2)
  subst e2
  have fin : Q (.bl b) c.H := po_v ok po (d := vB b) rfl q
  have obj : ∀ (kn : Cn) (ys : List D), obOf M d = some (kn, ys) → tab (.c kn) = some b → zIsi S.K [v, w] c.H Q := fun kn ys ho hb => by
    obtain ⟨a, dx, vs, rfl, h1, h2, _⟩ := ob_at ok r1 ho
    exact s_isiI h1 (hcs.cl kn h2) (hi kn h2 (by rw [hb]; rfl)) hc (ht (.c kn) b (fun n e => by cases e; exact h2) hb) fin
  have oth : ∀ t n, TyX S.K c.H v (.type t) → k = .t n → t = n → zIsi S.K [v, w] c.H Q := fun t n ty e e' => by
    subst e e'
    exact Or.inr ⟨_, _, _, _, b, rfl, hc, ty, ht (.t t) b (fun n e => by cases e) hb, fin⟩
  have viaObj : (obOf M d).map (fun p => Kd.c p.1) = some k → zIsi S.K [v, w] c.H Q := fun h => by
    cases ho : obOf M d with
    | none => rw [ho] at h; cases h
    | some p =>
      rw [ho] at h
      cases h
      exact obj p.1 p.2 ho hb
  cases d with
  | v x =>
    cases x with
    | non => cases hk; cases (show v = _ from r1); exact oth _ _ (.base .non) rfl rfl
    | bl i => cases hk; cases (show v = _ from r1); exact oth _ _ (.base (.bl _)) rfl rfl
    | int i => cases hk; cases (show v = _ from r1); exact oth _ _ (.base (.int _)) rfl rfl
    | str z => cases hk; cases (show v = _ from r1); exact oth _ _ (.base (.str _)) rfl rfl
    | lst xs => cases hk; obtain ⟨a, vs, rfl, h1, h2⟩ := r1; exact oth _ _ (.base (.lst (ok.rl.same _ _ h1))) rfl rfl
    | tup xs =>
      cases hk
      obtain ⟨a, vs, rfl, h1, h2⟩ := r1
      rcases Same.seqT ok.rl.same h1 with (h | ⟨o, h⟩) | ⟨o, its, n, h, hc, _⟩
      · exact oth _ _ (.base (.tup h)) rfl rfl
      · exact oth _ _ (.fTuple h) rfl rfl
      · exact oth _ _ (.kTuple h hc) rfl rfl
    | _ => exact viaObj hk
  | cell i => exact viaObj hk
  | exn a => exact viaObj hk
end
end Cl
/-! Layer of values: keywords. -/
/-! Layer of values: some keywords, within a try. -/
namespace Cl
open PySem PySem.Spec PyProof.Rows L2 He ClX
/-! ### a method called within a try -/
section
variable {S : Sc} {tb : TE} {db : DE} {tr : TA} {dr : DA}
def dMethS (g : Cn → Option DSp) (W : DSt → DX) (o : DE) (a : DA) : DE := fun ds M Q => o ds M fun x M1 => ∃ k ys sp, obOf M1 x = some (k, ys) ∧ g k = some sp ∧ a ds M1 fun xs M2 => sp (x :: xs) M2 Q (W ds)
end
/-! ### a text <= a text -/
end Cl
/-! Layer of values: keywords in any order. -/
namespace Cl
open PySem PySem.Spec PyProof.Rows L2 He ClX
/-! ### steps -/
section
variable {M : Mem} {Q : DQ} {ds : DSt}
theorem k_makeS {k : Cn} {g : DSp} {dv : List PV} {W : DSt → DX} {a : DA} (h : a ds M fun xs M1 => g (.cell M1.length :: (xs ++ dv.map D.v)) (M1 ++ [some (.obj k [])]) (mkQ k M1 Q) (xExit M1 (W ds))) : dMakeS k g dv W a ds M Q := h
theorem k_methS {g : Cn → Option DSp} {W : DSt → DX} {o : DE} {a : DA} (h : o ds M fun x M1 => ∃ k ys sp, obOf M1 x = some (k, ys) ∧ g k = some sp ∧ a ds M1 fun xs M2 => sp (x :: xs) M2 Q (W ds)) : dMethS g W o a ds M Q := h
theorem k_callSt {g : DSp} {W : DSt → DX} {a : DA} (h : a ds M fun xs M1 => g xs M1 Q (W ds)) : dCallS g W a ds M Q := h
end
/-! tests whose answer is known -/
theorem z_T {c : Bool} {A B : Prop} (h : c = true) (k : A) : if c = true then A else B := by rw [if_pos h]; exact k
theorem z_F {c : Bool} {A B : Prop} (h : c = false) (k : B) : if c = true then A else B := by rw [h]; exact k
theorem z_nT {c : Bool} {A B : Prop} (h : c = true) (k : B) : if (!c) = true then A else B := by rw [h]; exact k
theorem z_nF {c : Bool} {A B : Prop} (h : c = false) (k : A) : if (!c) = true then A else B := by rw [h]; exact k
theorem z_eq {α : Type} [DecidableEq α] {a : α} {A B : Prop} (k : A) : if decide (a = a) = true then A else B := by rw [decide_eq_true rfl]; exact k
theorem z_neq {α : Type} [DecidableEq α] {a : α} {A B : Prop} (k : B) : if (!decide (a = a)) = true then A else B := by rw [decide_eq_true rfl]; exact k
end Cl
/-! The layer of values, part 7: steps. -/
namespace Cl
open PySem PySem.Spec PyProof.Rows L2 He ClX
section
variable {t u : DS} {a b c o : DE} {tt tu : DT} {r : DA} {E : DEnds} {ds : DSt} {M : Mem} {Q : DQ} {QB : Bool → Mem → Prop} {QA : List D → Mem → Prop} {g : DG} {i : Nat} {d : D} {x : PV}
theorem k_nf {A B : Prop} (h : A) : if (!false) = true then A else B := h
theorem k_nt {A B : Prop} (h : B) : if (!true) = true then A else B := h
theorem k_sz {α : Type} {z : List α} {p : Prop} (h1 : z.length ≤ sizeLine) (h : p) : z.length ≤ sizeLine ∧ p := ⟨h1, h⟩
theorem k_pu {ys : List D} {xs : List PV} {p : List PV → Prop} (e : pures ys = some xs) (hl : ys.length ≤ sizeLine) (h : p xs) : ∃ xs, pures ys = some xs ∧ ys.length ≤ sizeLine ∧ p xs := ⟨xs, e, hl, h⟩
theorem k_seq (h : t { E with nx := u E } ds M) : dSeq t u E ds M := ⟨_, h, fun _ _ q => q⟩
theorem k_nocut (h : t { E with nx := u E } ds M) : dCut t u E ds M := ⟨_, h, fun _ _ q => q⟩
theorem k_asg (h : a ds M fun x M1 => g x ds M1 E.nx) : dAsg a g E ds M := h
theorem k_ret (h : a ds M E.rt) : dRet a E ds M := h
theorem k_drop (h : a ds M fun _ M1 => E.nx ds M1) : dDrop a E ds M := h
theorem k_next (h : E.nx ds M) : dNext E ds M := h
theorem k_ifS (h : tt ds M fun k M1 => if k = true then t E ds M1 else u E ds M1) : dIfS tt t u E ds M := h
theorem k_var (e : ds[i]? = some (some d)) (h : Q d M) : dVar i ds M Q := ⟨d, e, h⟩
theorem k_c (h : Q (.v x) M) : dC x ds M Q := h
theorem k_op {rr : DR2} (h : a ds M fun x M1 => b ds M1 fun y M2 => rr x y M2 Q) : dOp rr a b ds M Q := h
theorem k_un {rr : D → Mem → DQ → Prop} (h : a ds M fun x M1 => rr x M1 Q) : dUn rr a ds M Q := h
theorem k_nil (h : QA [] M) : dNil ds M QA := h
theorem k_cons (h : a ds M fun x M1 => r ds M1 fun xs M2 => QA (x :: xs) M2) : dCons a r ds M QA := h
theorem k_cb {rr : DR} (h : r ds M fun xs M1 => rr xs M1 Q) : dCB rr r ds M Q := h
theorem k_bm {ty : D → Mem → Prop} {rr : DM} (h : o ds M fun x M1 => ty x M1 ∧ r ds M1 fun xs M2 => rr x xs M2 Q) : dBm ty rr o r ds M Q := h
theorem k_tyS {z : List Nat} {p : Prop} (h : p) : tyS (vS z) M ∧ p := ⟨⟨z, rfl⟩, h⟩
theorem k_tyL {ys : List D} {p : Prop} (e : lsOf M d = some ys) (h : p) : tyL d M ∧ p := ⟨⟨ys, e⟩, h⟩
theorem k_test (h : a ds M fun x M1 => ∃ k, x = vB k ∧ QB k M1) : dTest a ds M QB := h
theorem k_bl {b : Bool} {QP : Bool → Prop} (h : QP b) : ∃ k, vB b = vB k ∧ QP k := ⟨b, rfl, h⟩
theorem k_i {j : Int} {QP : Int → Prop} (h : QP j) : ∃ k, vI j = vI k ∧ QP k := ⟨j, rfl, h⟩
theorem k_not (h : tt ds M fun b M1 => QB (!b) M1) : dNot tt ds M QB := h
theorem k_and (h : tt ds M fun b M1 => if b = true then tu ds M1 QB else QB false M1) : dAnd tt tu ds M QB := h
theorem k_or (h : tt ds M fun b M1 => if b = true then QB true M1 else tu ds M1 QB) : dOr tt tu ds M QB := h
theorem k_andV (h : a ds M fun x M1 => ∃ k, x = vB k ∧ if k = true then b ds M1 Q else Q (vB false) M1) : dAndV a b ds M Q := h
theorem k_orV (h : a ds M fun x M1 => ∃ k, x = vB k ∧ if k = true then Q (vB true) M1 else b ds M1 Q) : dOrV a b ds M Q := h
theorem k_notV (h : a ds M fun x M1 => ∃ k, x = vB k ∧ Q (vB (!k)) M1) : dNotV a ds M Q := h
theorem k_if (h : tt ds M fun k M1 => if k = true then a ds M1 Q else b ds M1 Q) : dIf tt a b ds M Q := h
theorem k_name {QS : DSt → Mem → Prop} (h : QS (ds.set i (some d)) M) : hName i d ds M QS := h
theorem k_gtup {n : Nat} {gs : DGs} {xs : List PV} {QS : DSt → Mem → Prop} (hl : xs.length = n) (h : gs (xs.map D.v) ds M QS) : hTup n gs (vT xs) ds M QS := ⟨xs, rfl, hl, h⟩
theorem k_gcons {gs : DGs} {xs : List D} {QS : DSt → Mem → Prop} (h : g d ds M fun ds' M' => gs xs ds' M' QS) : hCons g gs (d :: xs) ds M QS := ⟨d, xs, rfl, h⟩
theorem k_gnil {QS : DSt → Mem → Prop} (h : QS ds M) : hNil [] ds M QS := ⟨rfl, h⟩
theorem k_nopart {QO : Option Int → Mem → Prop} (h : QO none M) : dNoPart ds M QO := h
theorem k_part {QO : Option Int → Mem → Prop} (h : a ds M fun x M1 => ∃ i, x = vI i ∧ QO (some i) M1) : dPart a ds M QO := h
theorem k_sl {rr : D → Option Int → Option Int → Mem → DQ → Prop} {l h : DO} (q : a ds M fun x M1 => l ds M1 fun lo M2 => h ds M2 fun hi M3 => rr x lo hi M3 Q) : dSl rr a l h ds M Q := q
theorem k_tup (h : r ds M fun ys M1 => ∃ xs, pures ys = some xs ∧ ys.length ≤ sizeLine ∧ Q (vT xs) M1) : dTup r ds M Q := h
theorem k_lst (h : r ds M fun ys M1 => ∃ xs, pures ys = some xs ∧ ys.length ≤ sizeLine ∧ Q (vL xs) M1) : dLst r ds M Q := h
theorem k_lstC (h : r ds M fun ys M1 => ys.length ≤ sizeLine ∧ Q (.cell M1.length) (M1 ++ [some (.lst ys)])) : dLstC r ds M Q := h
theorem k_chain {rr rr' : DR2} (h : a ds M fun x M1 => b ds M1 fun y M2 => rr x y M2 fun z M3 => ∃ k, z = vB k ∧ if k = true then c ds M3 fun u M4 => rr' y u M4 Q else Q (vB false) M3) : dChain rr rr' a b c ds M Q := h
theorem k_call {gg : DSp} {X : DX} (h : r ds M fun xs M1 => gg xs M1 Q X) : dCall gg X r ds M Q := h
theorem k_meth {gg : Cn → Option DSp} {dv : List PV} {X : DX} (h : o ds M fun x M1 => ∃ k ys sp, obOf M1 x = some (k, ys) ∧ gg k = some sp ∧ r ds M1 fun xs M2 => sp (x :: (xs ++ dv.map D.v)) M2 Q X) : dMeth gg dv X o r ds M Q := h
theorem k_tru (h : a ds M fun x M1 => ∃ k, truD M1 x = some k ∧ (∀ z, x = vS z → z.length ≤ sizeLine) ∧ QB k M1) : dTru a ds M QB := h
theorem k_truB {b : Bool} {p : Bool → Prop} (h : p b) : ∃ k, truD M (vB b) = some k ∧ (∀ z, vB b = vS z → z.length ≤ sizeLine) ∧ p k := ⟨b, rfl, (fun _ e => by cases e), h⟩
theorem k_truL {xs : List PV} {p : Bool → Prop} (h : p (!xs.isEmpty)) : ∃ k, truD M (vL xs) = some k ∧ (∀ z, vL xs = vS z → z.length ≤ sizeLine) ∧ p k := ⟨_, rfl, (fun _ e => by cases e), h⟩
theorem k_fld {f : Fd} (h : a ds M fun x M1 => ∃ k ys y, obOf M1 x = some (k, ys) ∧ ys[k.ix f]? = some y ∧ Q y M1) : dFld a f ds M Q := h
theorem k_stf {f : Fd} (h : a ds M fun y M1 => o ds M1 fun x M2 => ∃ i k ys, x = .cell i ∧ M2[i]? = some (some (.obj k ys)) ∧ k.ix f ≤ ys.length ∧ k.ix f < k.flds.length ∧ E.nx ds (M2.set i (some (.obj k (setF ys (k.ix f) y))))) : dStF o a f E ds M := h
theorem k_frz (h : a ds M fun x M1 => ∃ y M2, frz M1 x = some (y, M2) ∧ Q (.v y) M2) : dFrz a ds M Q := h
theorem k_frzV (x : PV) {p : PV → Mem → Prop} (h : p x M) : ∃ y M2, frz M (.v x) = some (y, M2) ∧ p y M2 := ⟨x, M, rfl, h⟩
theorem k_lc {it : DI} {vs : List Nat} {e : DE} (h : it ds M fun xs M1 => dComp g tt e (wipeD ds vs) (fun acc M2 => Q (vL acc) M2) xs [] M1) : dLc it g tt e vs ds M Q := h
theorem k_yes (h : QB true M) : dYes ds M QB := h
theorem k_for {it : DI} (h : it ds M fun xs M1 => dLoop g t E xs ds M1) : dFor it g t E ds M := h
theorem k_jstr {R : List D → Mem → Prop} (h : a ds M fun x M1 => ∃ z, x = vS z ∧ R (z.map fun c => D.v (.str [c])) M1) : jStr a ds M R := h
theorem k_jlst {R : List D → Mem → Prop} (h : a ds M fun x M1 => ∃ xs, x = vL xs ∧ R (xs.map D.v) M1) : jLst a ds M R := h
theorem k_jtup {R : List D → Mem → Prop} (h : a ds M fun x M1 => ∃ xs, x = vT xs ∧ R (xs.map D.v) M1) : jTup a ds M R := h
theorem k_s {z : List Nat} {QP : List Nat → Prop} (h : QP z) : ∃ k, vS z = vS k ∧ QP k := ⟨z, rfl, h⟩
theorem k_l {z : List PV} {QP : List PV → Prop} (h : QP z) : ∃ k, vL z = vL k ∧ QP k := ⟨z, rfl, h⟩
theorem k_tu {z : List PV} {QP : List PV → Prop} (h : QP z) : ∃ k, vT z = vT k ∧ QP k := ⟨z, rfl, h⟩
theorem k_rng1 {R : List D → Mem → Prop} (h : r ds M fun xs M1 => ∃ j : Int, xs = [vI j] ∧ -(2 ^ 62) ≤ j ∧ j < 2 ^ 62 ∧ R ((List.range j.toNat).map fun (k : Nat) => vI k) M1) : jRng1 r ds M R := h
theorem k_raise {k : Cn} {X : DX} (h : r ds M fun xs M1 => ∃ ps, pures xs = some ps ∧ ps.length = k.flds.length ∧ X ⟨k, ps⟩ M1) : dRaise k X r E ds M := h
theorem k_try {tb : List (Cn × Bool)} {bb : (DSt → DX) → DS} {s : Addr → DErr → DS} {Wo : DSt → DX} (h : bb (wTry tb i s Wo E) E ds M) : dTry tb i bb s Wo E ds M := h
theorem k_callI {gg : Cn → Option DSp} {X : DX} (h : o ds M fun x M1 => (∃ k ys, obOf M1 x = some (k, ys)) ∧ r ds M1 fun xs M2 => ∃ k ys sp, obOf M2 x = some (k, ys) ∧ gg k = some sp ∧ sp (x :: xs) M2 Q X) : dCallI gg X o r ds M Q := h
theorem k_callIS {gg : Cn → Option DSp} {W : DSt → DX} (h : o ds M fun x M1 => (∃ k ys, obOf M1 x = some (k, ys)) ∧ r ds M1 fun xs M2 => ∃ k ys sp, obOf M2 x = some (k, ys) ∧ gg k = some sp ∧ sp (x :: xs) M2 Q (W ds)) : dCallIS gg W o r ds M Q := h
theorem k_xf {z : Addr} {e : DErr} {k : Cn} {f : Fd} (h : a ds M fun x M1 => x = .exn z ∧ e.c = k ∧ k.ix f < k.flds.length ∧ ∃ y, e.xs[k.ix f]? = some y ∧ Q (.v y) M1) : dXf z e k f a ds M Q := h
theorem k_fs {es : List DE} (h : dJs es [] ds M fun z M1 => Q (vS z) M1) : dFs es ds M Q := h
theorem k_js {es : List DE} {acc : List Nat} {QS : List Nat → Mem → Prop} (h : a ds M fun x M1 => ∃ z, x = vS z ∧ acc.length + z.length ≤ sizeLine ∧ dJs es (acc ++ z) ds M1 QS) : dJs (a :: es) acc ds M QS := h
theorem k_jnil {acc : List Nat} {QS : List Nat → Mem → Prop} (h : QS acc M) : dJs [] acc ds M QS := h
theorem k_fmt (h : a ds M fun x M1 => (∃ z, x = vS z ∧ z.length ≤ sizeLine ∧ Q (vS z) M1) ∨ ∃ i, x = vI i ∧ i.natAbs.log2 < 1920 ∧ Q (vS (figs i)) M1) : dFmt a ds M Q := h
theorem k_sub {y : D} {QS : DSt → Mem → Prop} (h : o ds M fun x M1 => a ds M1 fun j M2 => ∃ k es n l, x = .cell k ∧ j = vI n ∧ M2[k]? = some (some (.lst es)) ∧ ixN es.length n = some l ∧ QS ds (M2.set k (some (.lst (es.set l y))))) : hSub o a y ds M QS := h
theorem k_lenSet (h : r ds M fun xs M1 => uLenSet xs M1 Q) : dLenSet r ds M Q := h
theorem k_srtSet (h : r ds M fun xs M1 => ∃ z, xs = [vS z] ∧ z.length < 64 ∧ ∀ ys : List Nat, ys.Pairwise (· < ·) → (∀ c, c ∈ ys ↔ c ∈ z) → Q (vL (sgn ys)) M1) : dSrtSet r ds M Q := h
theorem k_rev (h : a ds M fun x M1 => ∃ z, x = vS z ∧ z.length ≤ sizeLine ∧ Q (vS z.reverse) M1) : dRev a ds M Q := h
/-! operators over values -/
theorem k_addI {i j : Int} (h : Q (vI (i + j)) M) : uAdd (vI i) (vI j) M Q := Or.inl ⟨i, j, rfl, rfl, h⟩
theorem k_addS {z y : List Nat} (hl : z.length + y.length ≤ sizeLine) (h : Q (vS (z ++ y)) M) : uAdd (vS z) (vS y) M Q := Or.inr (Or.inl ⟨z, y, rfl, rfl, hl, h⟩)
theorem k_addL {z y : List PV} (hl : z.length + y.length ≤ sizeLine) (h : Q (vL (z ++ y)) M) : uAdd (vL z) (vL y) M Q := Or.inr (Or.inr ⟨z, y, rfl, rfl, hl, h⟩)
theorem k_subI {i j : Int} (h : Q (vI (i - j)) M) : uSub (vI i) (vI j) M Q := ⟨i, j, rfl, rfl, h⟩
theorem k_lt {i j : Int} (h : Q (vB (decide (i < j))) M) : uLt (vI i) (vI j) M Q := ⟨i, j, rfl, rfl, h⟩
theorem k_le {i j : Int} (h : Q (vB (decide (i ≤ j))) M) : uLe (vI i) (vI j) M Q := ⟨i, j, rfl, rfl, h⟩
theorem k_gt {i j : Int} (h : Q (vB (decide (j < i))) M) : uGt (vI i) (vI j) M Q := ⟨i, j, rfl, rfl, h⟩
theorem k_ge {i j : Int} (h : Q (vB (decide (j ≤ i))) M) : uGe (vI i) (vI j) M Q := ⟨i, j, rfl, rfl, h⟩
theorem k_neg {i : Int} (h : Q (vI (-i)) M) : uNeg (vI i) M Q := ⟨i, rfl, h⟩
theorem k_eq {x y : PV} {k : Bool} (e : eqP x y = some k) (h : Q (vB k) M) : uEq (.v x) (.v y) M Q := ⟨x, y, rfl, rfl, Or.inl ⟨k, e, h⟩⟩
theorem k_ne {x y : PV} {k : Bool} (e : eqP x y = some k) (h : Q (vB (!k)) M) : uNe (.v x) (.v y) M Q := ⟨x, y, rfl, rfl, Or.inl ⟨k, e, h⟩⟩
theorem k_neS {z : List Nat} (h : Q (vB false) M) : uNe (vS z) (vS z) M Q := ⟨_, _, rfl, rfl, Or.inl ⟨true, by show some (decide (z = z)) = _; rw [decide_eq_true rfl], h⟩⟩
theorem k_eqS {z : List Nat} (h : Q (vB true) M) : uEq (vS z) (vS z) M Q := ⟨_, _, rfl, rfl, Or.inl ⟨true, by show some (decide (z = z)) = _; rw [decide_eq_true rfl], h⟩⟩
theorem k_isN (h : Q (vB (isNon d)) M) : uIs d (.v .non) M Q := Or.inl ⟨rfl, h⟩
theorem k_isnotN (h : Q (vB (!isNon d)) M) : uIsNot d (.v .non) M Q := Or.inl ⟨rfl, h⟩
theorem k_isB {x y : Bool} (h : Q (vB (decide (x = y))) M) : uIs (vB x) (vB y) M Q := Or.inr ⟨x, y, rfl, rfl, h⟩
theorem k_isnotB {x y : Bool} (h : Q (vB (!decide (x = y))) M) : uIsNot (vB x) (vB y) M Q := Or.inr ⟨x, y, rfl, rfl, h⟩
theorem k_in {c : Nat} {z : List Nat} (h : Q (vB (decide (c ∈ z))) M) : uIn (vS [c]) (vS z) M Q := Or.inl ⟨c, z, rfl, rfl, by rw [Bool.false_bne]; exact h⟩
theorem k_notin {c : Nat} {z : List Nat} (h : Q (vB (!decide (c ∈ z))) M) : uNotIn (vS [c]) (vS z) M Q := Or.inl ⟨c, z, rfl, rfl, by rw [Bool.true_bne]; exact h⟩
theorem k_ixS {z : List Nat} {i : Int} {c : Nat} (hl : z.length ≤ sizeLine) (e : atI z i = some c) (h : Q (vS [c]) M) : uIx (vS z) (vI i) M Q := ⟨i, rfl, Or.inl ⟨z, c, rfl, hl, e, h⟩⟩
theorem k_ixL {z : List PV} {i : Int} {y : PV} (e : atI z i = some y) (h : Q (.v y) M) : uIx (vL z) (vI i) M Q := ⟨i, rfl, Or.inr (Or.inl ⟨z, y, Or.inl rfl, e, h⟩)⟩
theorem k_ixT {z : List PV} {i : Int} {y : PV} (e : atI z i = some y) (h : Q (.v y) M) : uIx (vT z) (vI i) M Q := ⟨i, rfl, Or.inr (Or.inl ⟨z, y, Or.inr rfl, e, h⟩)⟩
theorem k_ixC {k : Nat} {z : List D} {i : Int} {y : D} (m : M[k]? = some (some (.lst z))) (e : atI z i = some y) (h : Q y M) : uIx (.cell k) (vI i) M Q := ⟨i, rfl, Or.inr (Or.inr ⟨k, z, y, rfl, m, e, h⟩)⟩
theorem k_slS {z : List Nat} {lo hi : Option Int} (hl : z.length ≤ sizeLine) (h : Q (vS (cut z lo hi)) M) : uSl (vS z) lo hi M Q := Or.inl ⟨z, rfl, hl, h⟩
theorem k_slL {z : List PV} {lo hi : Option Int} (h : Q (vL (cut z lo hi)) M) : uSl (vL z) lo hi M Q := Or.inr (Or.inl ⟨z, rfl, h⟩)
theorem k_slX {ns : List Int} {lo hi : Option Int} (h : Q (vL ((cut ns lo hi).map PV.int)) M) : uSl (.v (.scr ns)) lo hi M Q := Or.inr (Or.inr (Or.inl ⟨ns, rfl, h⟩))
theorem k_lenS {z : List Nat} (hl : z.length ≤ sizeLine) (h : Q (vI z.length) M) : uLen [vS z] M Q := ⟨_, rfl, Or.inl ⟨z, rfl, hl, h⟩⟩
theorem k_lenL {z : List PV} (h : Q (vI z.length) M) : uLen [vL z] M Q := ⟨_, rfl, Or.inr ⟨_, rfl, by rw [List.length_map]; exact h⟩⟩
theorem k_lenT {z : List PV} (h : Q (vI z.length) M) : uLen [vT z] M Q := ⟨_, rfl, Or.inr ⟨_, rfl, by rw [List.length_map]; exact h⟩⟩
theorem k_lenC {k : Nat} {z : List D} (m : M[k]? = some (some (.lst z))) (h : Q (vI z.length) M) : uLen [.cell k] M Q := ⟨_, rfl, Or.inr ⟨z, by show (match M[k]? with | some (some (Cell.lst ds)) => some ds | _ => none) = _; rw [m], h⟩⟩
theorem k_int {i : Int} (h : Q (vI i) M) : uInt [vI i] M Q := Or.inl ⟨i, rfl, h⟩
theorem k_intB {k : Bool} (h : Q (vI (if k then 1 else 0)) M) : uInt [vB k] M Q := Or.inr ⟨k, rfl, h⟩
theorem k_bool {k : Bool} (h : Q (vB k) M) : uBool [vB k] M Q := ⟨k, rfl, h⟩
theorem k_listL {z : List PV} (h : Q (vL z) M) : uList [vL z] M Q := ⟨_, rfl, Or.inr ⟨_, z, rfl, pures_map z, h⟩⟩
theorem k_listT {z : List PV} (h : Q (vL z) M) : uList [vT z] M Q := ⟨_, rfl, Or.inr ⟨_, z, rfl, pures_map z, h⟩⟩
theorem k_listCS {z : List Nat} (hl : z.length ≤ sizeLine) (h : Q (.cell M.length) (M ++ [some (.lst ((sgn z).map D.v))])) : uListC [vS z] M Q := ⟨_, rfl, Or.inl ⟨z, rfl, hl, h⟩⟩
theorem k_srt {z : List Nat} (hl : z.length < 64) (h : Q (vL (sgn (srt z))) M) : uSrt [vS z] M Q := ⟨z, rfl, hl, h⟩
theorem k_joinL {y : List Nat} {zs : List (List Nat)} {xs : List PV} (e : xs = zs.map PV.str) (hl : (zs.map List.length).sum + zs.length * y.length ≤ 16777216) (h : Q (vS (glue y zs)) M) : uJoin (vS y) [vL xs] M Q := by
  subst e
  exact ⟨y, _, zs, rfl, rfl, rfl, hl, h⟩
/-- the signs joined again -/
theorem k_joinG {z : List Nat} (hl : z.length ≤ 1000000) (h : Q (vS z) M) : uJoin (vS []) [vL (sgn z)] M Q := by
  refine k_joinL (zs := z.map fun c => [c]) (by rw [List.map_map]; rfl) ?_ ?_
  · have : ((z.map fun c => [c]).map List.length).sum = z.length := by
      clear hl h
      rw [List.map_map]
      induction z with
      | nil => rfl
      | cons a t ih =>
        rw [List.map_cons, List.sum_cons, ih]
        simp
        omega
    rw [this]
    simp
    omega
  · rw [glue_nil, flat_sgs]
    exact h
/-! cells: the last one -/
theorem ls_last {ys : List D} : lsOf (M ++ [some (.lst ys)]) (.cell M.length) = some ys := by
  show (match (M ++ [some (Cell.lst ys)])[M.length]? with | some (some (Cell.lst ds)) => some ds | _ => none) = _
  rw [List.getElem?_concat_length]
theorem set_last {α : Type} {M : List α} {x y : α} : (M ++ [x]).set M.length y = M ++ [y] := by
  rw [List.set_append_right _ _ (Nat.le_refl _), Nat.sub_self]
  rfl
/-! the end of a def -/
theorem Exit.refl (M : Mem) : Exit M M := ⟨Nat.le_refl _, fun i x _ e => Or.inl e⟩
theorem Exit.app (M ys : Mem) : Exit M (M ++ ys) := ⟨by simp, fun i x hi e => Or.inl (by rw [List.getElem?_append_left hi] at e; exact e)⟩
theorem Exit.set {M : Mem} {i : Nat} {x : Cell} (h : x.low M.length) : Exit M (M.set i (some x)) := ⟨by simp, fun j y hj e => by
  by_cases hij : i = j
  · subst hij
    rw [List.getElem?_set_self hj] at e
    cases e
    exact Or.inr h
  · rw [List.getElem?_set_ne hij] at e
    exact Or.inl e⟩
theorem Exit.trans {M M1 M2 : Mem} (a : Exit M M1) (hl : M1.length = M.length) (b : Exit M1 M2) : Exit M M2 := ⟨Nat.le_trans a.1 b.1, fun i x hi e => by
  rcases b.2 i x (by omega) e with h | h
  · exact a.2 i x hi h
  · exact Or.inr (hl ▸ h)⟩
theorem x_same {x : PV} (h : Q (.v x) M) : qExit M Q (.v x) M := ⟨(fun _ e => by cases e), Exit.refl M, by rw [List.take_length]; exact h⟩
theorem x_set {x : PV} {i : Nat} {c : Cell} (hc : c.low M.length) (h : Q (.v x) (M.set i (some c))) : qExit M Q (.v x) (M.set i (some c)) := ⟨(fun _ e => by cases e), Exit.set hc, by
  have e : (M.set i (some c)).take M.length = M.set i (some c) := by
    have : (M.set i (some c)).length = M.length := by simp
    rw [← this, List.take_length]
  rw [e]
  exact h⟩
theorem xe_same {X : DX} {e : DErr} (h : X e M) : xExit M X e M := ⟨Exit.refl M, by rw [List.take_length]; exact h⟩
theorem xe_app {X : DX} {e : DErr} {ys : Mem} (h : X e M) : xExit M X e (M ++ ys) := ⟨Exit.app M ys, by rw [List.take_left']; exact h; rfl⟩
/-! making -/
theorem mk_done {k : Cn} {ps : List PV} {o : Option Cell} (h : Q (.v (.obj k ps)) M) : mkQ k M Q (.v .non) ((M ++ [o]).set M.length (some (.obj k (ps.map D.v)))) := by
  refine ⟨rfl, ps.map D.v, ps, ?_, pures_map ps, ?_, ?_⟩
  · rw [set_last, List.getElem?_concat_length]
  · rw [set_last, set_last]
    exact Exit.app M _
  · rw [set_last, set_last, List.take_left' rfl]
    exact h
theorem k_make {k : Cn} {gg : DSp} {dv : List PV} {X : DX} (h : r ds M fun xs M1 => gg (.cell M1.length :: (xs ++ dv.map D.v)) (M1 ++ [some (.obj k [])]) (mkQ k M1 Q) (xExit M1 X)) : dMake k gg dv X r ds M Q := h
/-! loops -/
theorem loop_cons {xs : List D} (h : g d ds M fun ds2 M2 => t { E with nx := dLoop g t E xs, ct := dLoop g t E xs, bk := E.nx } ds2 M2) : dLoop g t E (d :: xs) ds M := h
/-- a loop by its invariant -/
theorem loop_inv {xs : List D} (I : Nat → DSt → Mem → Prop) (h0 : I 0 ds M) (hs : ∀ i x ds M (N : DSt → Mem → Prop), xs[i]? = some x → I i ds M → (∀ ds' M', I (i + 1) ds' M' → N ds' M') → g x ds M fun ds2 M2 => t { E with nx := N, ct := N, bk := E.nx } ds2 M2) (hd : ∀ ds M, I xs.length ds M → E.nx ds M) : dLoop g t E xs ds M := by
  have key : ∀ (ys : List D) (i : Nat) (ds : DSt) (M : Mem), xs.drop i = ys → i ≤ xs.length → I i ds M → dLoop g t E ys ds M := by
    intro ys
    induction ys with
    | nil =>
      intro i ds M e hi hI
      have : xs.length ≤ i := List.drop_eq_nil_iff.mp e
      have : i = xs.length := by omega
      subst this
      exact hd ds M hI
    | cons y ys ih =>
      intro i ds M e hi hI
      have hlt : i < xs.length := by
        rcases Nat.lt_or_ge i xs.length with h | h
        · exact h
        · rw [List.drop_eq_nil_of_le h] at e
          cases e
      rw [List.drop_eq_getElem_cons hlt] at e
      obtain ⟨e1, e2⟩ := List.cons.inj e
      exact hs i y ds M _ (by rw [← e1]; simp [hlt]) hI fun ds' M' hI' => ih (i + 1) ds' M' e2 hlt hI'
  exact key xs 0 ds M rfl (Nat.zero_le _) h0
end
end Cl
/-! Layer of values: split, nested data compared, a dict of the module. -/
namespace Cl
open PySem PySem.Spec PyProof.Rows L2 He ClX
/-! ### words of a text -/
/-! ### data of a form that can be compared -/
mutual
def PV.lay : Nat → PV → Bool
  | _, .non | _, .bl _ | _, .int _ => true
  | _, .str z => z.all (· < 1114112)
  | n + 1, .lst xs => PV.layL n xs
  | n + 1, .tup xs => PV.layL n xs
  | _, _ => false
def PV.layL : Nat → List PV → Bool
  | _, [] => true
  | n, x :: xs => PV.lay n x && PV.layL n xs
end
mutual
theorem PV.lay_dat : ∀ (n : Nat) (x : PV), x.lay n = true → isDat x = true ∧ (pdat x).canLay0 = true ∧ (pdat x).depth ≤ n
  | n, .non, _ => ⟨rfl, rfl, Nat.zero_le _⟩
  | n, .bl _, _ => ⟨rfl, rfl, Nat.zero_le _⟩
  | n, .int _, _ => ⟨rfl, rfl, Nat.zero_le _⟩
  | n, .str z, h => ⟨rfl, by
      cases n <;> (
      show ((⟨z⟩ : Array Nat).all (· < 0x110000)) = true
      rw [← Array.all_toList]
      exact h), Nat.zero_le _⟩
  | n + 1, .lst xs, h => let ⟨a, b, c⟩ := PV.layL_dat n xs h; ⟨a, b, by show PyData.depthAll (pdatL xs) + 1 ≤ n + 1; omega⟩
  | n + 1, .tup xs, h => let ⟨a, b, c⟩ := PV.layL_dat n xs h; ⟨a, b, by show PyData.depthAll (pdatL xs) + 1 ≤ n + 1; omega⟩
  | 0, .lst _, h => by cases h
  | 0, .tup _, h => by cases h
  | 0, .obj _ _, h => by cases h
  | n + 1, .obj _ _, h => by cases h
  | 0, .ty _, h => by cases h
  | n + 1, .ty _, h => by cases h
  | 0, .cls _, h => by cases h
  | n + 1, .cls _, h => by cases h
  | 0, .dct _ _, h => by cases h
  | n + 1, .dct _ _, h => by cases h
  | 0, .scr _, h => by cases h
  | n + 1, .scr _, h => by cases h
theorem PV.layL_dat : ∀ (n : Nat) (xs : List PV), PV.layL n xs = true → isDatL xs = true ∧ PyData.canLayAll0 (pdatL xs) = true ∧ PyData.depthAll (pdatL xs) ≤ n
  | n, [], _ => ⟨rfl, rfl, Nat.zero_le _⟩
  | n, x :: xs, h => by
    have h' : (PV.lay n x && PV.layL n xs) = true := by cases n <;> exact h
    obtain ⟨h1, h2⟩ := Bool.and_eq_true_iff.mp h'
    obtain ⟨a, b, c⟩ := PV.lay_dat n x h1
    obtain ⟨a', b', c'⟩ := PV.layL_dat n xs h2
    refine ⟨by show (isDat x && isDatL xs) = true; rw [a, a']; rfl, by show ((pdat x).canLay0 && PyData.canLayAll0 (pdatL xs)) = true; rw [b, b']; rfl, ?_⟩
    show max _ _ ≤ n
    omega
end
theorem PV.lay_shaped {x : PV} (h : x.lay 60 = true) : SeqAt.shaped (pdat x) = true := by
  obtain ⟨_, b, c⟩ := PV.lay_dat 60 x h
  unfold SeqAt.shaped
  rw [b, decide_eq_true (show (pdat x).depth ≤ 64 by omega)]
  rfl
theorem PV.layL_iff (n : Nat) : ∀ xs : List PV, PV.layL n xs = true ↔ ∀ x ∈ xs, x.lay n = true
  | [] => by cases n <;> simp [PV.layL]
  | x :: xs => by
    have e : PV.layL n (x :: xs) = (PV.lay n x && PV.layL n xs) := by cases n <;> rfl
    rw [e, Bool.and_eq_true, PV.layL_iff n xs]
    simp
/-- equal, as Python's == has it -/
def eqvP (a b : PV) : Bool := PyData.eqv (pdat a) (pdat b)
mutual
theorem eqvP_self : ∀ (n : Nat) (x : PV), x.lay n = true → PyData.eqv (pdat x) (pdat x) = true
  | n, .non, _ => rfl
  | n, .bl b, _ => by cases b <;> rfl
  | n, .int i, _ => by show (i == i) = true; simp
  | n, .str z, _ => by show (S z == S z) = true; rw [show (S z == S z) = decide (z = z) from SX.S_beq_eq]; simp
  | n + 1, .lst xs, h => eqvPL_self n xs h
  | n + 1, .tup xs, h => eqvPL_self n xs h
  | 0, .lst _, h => by cases h
  | 0, .tup _, h => by cases h
  | 0, .obj _ _, h => by cases h
  | n + 1, .obj _ _, h => by cases h
  | 0, .ty _, h => by cases h
  | n + 1, .ty _, h => by cases h
  | 0, .cls _, h => by cases h
  | n + 1, .cls _, h => by cases h
  | 0, .dct _ _, h => by cases h
  | n + 1, .dct _ _, h => by cases h
  | 0, .scr _, h => by cases h
  | n + 1, .scr _, h => by cases h
theorem eqvPL_self : ∀ (n : Nat) (xs : List PV), PV.layL n xs = true → PyData.eqvAll (pdatL xs) (pdatL xs) = true
  | n, [], _ => rfl
  | n, x :: xs, h => by
    have h' : (PV.lay n x && PV.layL n xs) = true := by cases n <;> exact h
    obtain ⟨h1, h2⟩ := Bool.and_eq_true_iff.mp h'
    show (PyData.eqv (pdat x) (pdat x) && PyData.eqvAll (pdatL xs) (pdatL xs)) = true
    rw [eqvP_self n x h1, eqvPL_self n xs h2]
    rfl
end
mutual
def PV.noB : PV → Bool
  | .non | .int _ | .str _ => true
  | .lst xs | .tup xs => PV.noBL xs
  | _ => false
def PV.noBL : List PV → Bool
  | [] => true
  | x :: xs => PV.noB x && PV.noBL xs
end
theorem PV.noBL_iff : ∀ xs : List PV, PV.noBL xs = true ↔ ∀ x ∈ xs, x.noB = true
  | [] => by simp [PV.noBL]
  | x :: xs => by
    show (PV.noB x && PV.noBL xs) = true ↔ _
    rw [Bool.and_eq_true, PV.noBL_iff xs]
    simp
mutual
theorem eqvP_eq : ∀ (x y : PV), x.noB = true → y.noB = true → PyData.eqv (pdat x) (pdat y) = true → x = y
  | .non, .non, _, _, _ => rfl
  | .int i, .int j, _, _, h => by
    have e : i = j := by simpa using (show (i == j) = true from h)
    rw [e]
  | .str a, .str b, _, _, h => by
    have h' : (S a == S b) = true := h
    rw [show (S a == S b) = decide (a = b) from SX.S_beq_eq] at h'
    rw [of_decide_eq_true h']
  | .lst xs, .lst ys, h1, h2, h => by rw [eqvPL_eq xs ys h1 h2 h]
  | .tup xs, .tup ys, h1, h2, h => by rw [eqvPL_eq xs ys h1 h2 h]
  | .non, .int _, _, _, h => by cases h
  | .non, .str _, _, _, h => by cases h
  | .non, .lst _, _, _, h => by cases h
  | .non, .tup _, _, _, h => by cases h
  | .int _, .non, _, _, h => by cases h
  | .int _, .str _, _, _, h => by cases h
  | .int _, .lst _, _, _, h => by cases h
  | .int _, .tup _, _, _, h => by cases h
  | .str _, .non, _, _, h => by cases h
  | .str _, .int _, _, _, h => by cases h
  | .str _, .lst _, _, _, h => by cases h
  | .str _, .tup _, _, _, h => by cases h
  | .lst _, .non, _, _, h => by cases h
  | .lst _, .int _, _, _, h => by cases h
  | .lst _, .str _, _, _, h => by cases h
  | .lst _, .tup _, _, _, h => by cases h
  | .tup _, .non, _, _, h => by cases h
  | .tup _, .int _, _, _, h => by cases h
  | .tup _, .str _, _, _, h => by cases h
  | .tup _, .lst _, _, _, h => by cases h
  | .bl _, _, h, _, _ => by cases h
  | .obj _ _, _, h, _, _ => by cases h
  | .ty _, _, h, _, _ => by cases h
  | .cls _, _, h, _, _ => by cases h
  | .dct _ _, _, h, _, _ => by cases h
  | .scr _, _, h, _, _ => by cases h
  | .non, .bl _, _, h, _ => by cases h
  | .non, .obj _ _, _, h, _ => by cases h
  | .non, .ty _, _, h, _ => by cases h
  | .non, .cls _, _, h, _ => by cases h
  | .non, .dct _ _, _, h, _ => by cases h
  | .non, .scr _, _, h, _ => by cases h
  | .int _, .bl _, _, h, _ => by cases h
  | .int _, .obj _ _, _, h, _ => by cases h
  | .int _, .ty _, _, h, _ => by cases h
  | .int _, .cls _, _, h, _ => by cases h
  | .int _, .dct _ _, _, h, _ => by cases h
  | .int _, .scr _, _, h, _ => by cases h
  | .str _, .bl _, _, h, _ => by cases h
  | .str _, .obj _ _, _, h, _ => by cases h
  | .str _, .ty _, _, h, _ => by cases h
  | .str _, .cls _, _, h, _ => by cases h
  | .str _, .dct _ _, _, h, _ => by cases h
  | .str _, .scr _, _, h, _ => by cases h
  | .lst _, .bl _, _, h, _ => by cases h
  | .lst _, .obj _ _, _, h, _ => by cases h
  | .lst _, .ty _, _, h, _ => by cases h
  | .lst _, .cls _, _, h, _ => by cases h
  | .lst _, .dct _ _, _, h, _ => by cases h
  | .lst _, .scr _, _, h, _ => by cases h
  | .tup _, .bl _, _, h, _ => by cases h
  | .tup _, .obj _ _, _, h, _ => by cases h
  | .tup _, .ty _, _, h, _ => by cases h
  | .tup _, .cls _, _, h, _ => by cases h
  | .tup _, .dct _ _, _, h, _ => by cases h
  | .tup _, .scr _, _, h, _ => by cases h
theorem eqvPL_eq : ∀ (xs ys : List PV), PV.noBL xs = true → PV.noBL ys = true → PyData.eqvAll (pdatL xs) (pdatL ys) = true → xs = ys
  | [], [], _, _, _ => rfl
  | [], _ :: _, _, _, h => by cases h
  | _ :: _, [], _, _, h => by cases h
  | x :: xs, y :: ys, h1, h2, h => by
    obtain ⟨a1, a2⟩ := Bool.and_eq_true_iff.mp (show (PV.noB x && PV.noBL xs) = true from h1)
    obtain ⟨b1, b2⟩ := Bool.and_eq_true_iff.mp (show (PV.noB y && PV.noBL ys) = true from h2)
    obtain ⟨c1, c2⟩ := Bool.and_eq_true_iff.mp (show (PyData.eqv (pdat x) (pdat y) && PyData.eqvAll (pdatL xs) (pdatL ys)) = true from h)
    rw [eqvP_eq x y a1 b1 c1, eqvPL_eq xs ys a2 b2 c2]
end
theorem eqvP_iff {x y : PV} (hx : x.lay 60 = true) (h1 : x.noB = true) (h2 : y.noB = true) : eqvP x y = true ↔ x = y := ⟨eqvP_eq x y h1 h2, fun h => h ▸ eqvP_self 60 x hx⟩
/-! ### == != of nested data -/
section
variable {M : Mem} {Q : DQ} {a b c d : List Nat} {r : List (List Nat)}
theorem k_ixN {xs : List PV} {i : Nat} {y : PV} (e : xs[i]? = some y) (h : Q (.v y) M) : uIx (vL xs) (vI (i : Int)) M Q := k_ixL (atI_nat e) h
theorem k_ixm0 (h : Q (vS a) M) : uIx (vL (List.map PV.str (a :: r))) (.v (.int 0)) M Q := k_ixN (i := 0) rfl h
theorem k_ixm1 (h : Q (vS b) M) : uIx (vL (List.map PV.str (a :: b :: r))) (.v (.int 1)) M Q := k_ixN (i := 1) rfl h
theorem k_ixm2 (h : Q (vS c) M) : uIx (vL (List.map PV.str (a :: b :: c :: r))) (.v (.int 2)) M Q := k_ixN (i := 2) rfl h
theorem k_ixm3 (h : Q (vS d) M) : uIx (vL (List.map PV.str (a :: b :: c :: d :: r))) (.v (.int 3)) M Q := k_ixN (i := 3) rfl h
end
section
variable {α : Type} {xs : List α} {k : Int} {A B : Prop}
theorem z_lnF (h : ¬ (xs.length : Int) = k) (b : B) : if decide ((xs.length : Int) = k) = true then A else B := z_F (decide_eq_false h) b
theorem z_lnT (h : (xs.length : Int) = k) (b : A) : if decide ((xs.length : Int) = k) = true then A else B := z_T (decide_eq_true h) b
theorem z_nlnF (h : ¬ (xs.length : Int) = k) (b : A) : if (!decide ((xs.length : Int) = k)) = true then A else B := z_nF (decide_eq_false h) b
theorem z_nlnT (h : (xs.length : Int) = k) (b : B) : if (!decide ((xs.length : Int) = k)) = true then A else B := z_nT (decide_eq_true h) b
theorem z_lgF (h : ¬ k < (xs.length : Int)) (b : B) : if decide (k < (xs.length : Int)) = true then A else B := z_F (decide_eq_false h) b
theorem z_lgT (h : k < (xs.length : Int)) (b : A) : if decide (k < (xs.length : Int)) = true then A else B := z_T (decide_eq_true h) b
end
end Cl
/-! Layer of values: stars, objects made by star calls, class methods, own operators. -/
namespace Cl
open PySem PySem.Spec PyProof.Rows L2 He ClX
section
variable {S : Sc} {te ta tb tf : TE} {da db de df : DE} {tt tu : TT} {dt du : DT} {tr : TA} {dr : DA} {ts us : TS} {dss dus : DS}
/-- *e in an argument list -/
def dStar (a : DE) (r : DA) : DA := fun ds M Q => a ds M fun x M1 => ∃ ys, sqOf M1 x = some ys ∧ r ds M1 fun zs M2 => Q (ys ++ zs) M2
/-- C(a, ..) where C's __init__ has one parameter and a star behind self -/
def dMakeR (k : Cn) (g : DSp) (Ed : DX) (f : DE) (a : DA) : DE := fun ds M Q => f ds M fun y M0 => y = .v (.cls k) ∧ a ds M0 fun xs M1 => ∃ al ps, xs = al :: ps.map D.v ∧ ps.length ≤ sizeLine ∧
  g [.cell M1.length, al, .v (.tup ps)] (M1 ++ [some (.obj k [])]) (mkQ k M1 Q) (xExit M1 Ed)
/-- C.m(..), m a classmethod -/
def dCMeth (k : Cn) (g : DSp) (Ed : DX) (o : DE) (a : DA) : DE := fun ds M Q => o ds M fun x M1 => x = .v (.cls k) ∧ a ds M1 fun xs M2 => g (.v (.cls k) :: xs) M2 Q Ed
/-- tuple(x) -/
def dTupOf (a : DE) : DE := fun ds M Q => a ds M fun x M1 => (∃ ps, x = .v (.tup ps) ∧ Q (vT ps) M1) ∨ ∃ ys ps, lsOf M1 x = some ys ∧ pures ys = some ps ∧ Q (vT ps) M1
end
section
variable {a o f : DE} {r : DA} {ds : DSt} {M : Mem} {Q : DQ} {QA : List D → Mem → Prop}
theorem k_star (h : a ds M fun x M1 => ∃ ys, sqOf M1 x = some ys ∧ r ds M1 fun zs M2 => QA (ys ++ zs) M2) : dStar a r ds M QA := h
theorem k_makeR {k : Cn} {g : DSp} {X : DX} (h : f ds M fun y M0 => y = .v (.cls k) ∧ r ds M0 fun xs M1 => ∃ al ps, xs = al :: ps.map D.v ∧ ps.length ≤ sizeLine ∧ g [.cell M1.length, al, .v (.tup ps)] (M1 ++ [some (.obj k [])]) (mkQ k M1 Q) (xExit M1 X)) : dMakeR k g X f r ds M Q := h
theorem k_cmeth {k : Cn} {g : DSp} {X : DX} (h : o ds M fun x M1 => x = .v (.cls k) ∧ r ds M1 fun xs M2 => g (.v (.cls k) :: xs) M2 Q X) : dCMeth k g X o r ds M Q := h
theorem k_tupOf (h : a ds M fun x M1 => (∃ ps, x = .v (.tup ps) ∧ Q (vT ps) M1) ∨ ∃ ys ps, lsOf M1 x = some ys ∧ pures ys = some ps ∧ Q (vT ps) M1) : dTupOf a ds M Q := h
theorem k_tupT {ps : List PV} {P : List PV → Prop} {R : Prop} (h : P ps) : (∃ qs, vT ps = .v (.tup qs) ∧ P qs) ∨ R := Or.inl ⟨ps, rfl, h⟩
theorem k_tupL {ps : List PV} {P : List PV → Prop} {R : Prop} (h : P ps) : R ∨ ∃ ys qs, lsOf M (vL ps) = some ys ∧ pures ys = some qs ∧ P qs := Or.inr ⟨_, ps, rfl, pures_map ps, h⟩
theorem k_cls {k : Cn} {p : Prop} (h : p) : D.v (.cls k) = D.v (.cls k) ∧ p := ⟨rfl, h⟩
theorem k_starT {ps : List PV} {p : List D → Prop} (h : p (ps.map D.v)) : ∃ ys, sqOf M (vT ps) = some ys ∧ p ys := ⟨_, rfl, h⟩
theorem k_starL {ps : List PV} {p : List D → Prop} (h : p (ps.map D.v)) : ∃ ys, sqOf M (vL ps) = some ys ∧ p ys := ⟨_, rfl, h⟩
end
/-! ### raise of errors with two fields, and with none -/
section
variable {S : Sc} {tr : TA} {dr : DA}
/-- the fields lie latest first -/
def dRaise2 (k : Cn) (Ed : DX) (a : DA) : DS := fun _ ds M => a ds M fun xs M1 => ∃ x y, xs = [.v x, .v y] ∧ Ed ⟨k, [y, x]⟩ M1
theorem k_raise2 {k : Cn} {X : DX} {r : DA} {E : DEnds} {ds : DSt} {M : Mem} (h : r ds M fun xs M1 => ∃ x y, xs = [.v x, .v y] ∧ X ⟨k, [y, x]⟩ M1) : dRaise2 k X r E ds M := h
def dRaise0 (k : Cn) (Ed : DX) : DS := fun _ _ M => Ed ⟨k, []⟩ M
theorem k_raise0 {k : Cn} {X : DX} {E : DEnds} {ds : DSt} {M : Mem} (h : X ⟨k, []⟩ M) : dRaise0 k X E ds M := h
end
/-- one class alone -/
def gm1 (c : Cn) (g : DSp) : Cn → Option DSp := fun k => if k = c then some g else none
theorem k_gm1 {c : Cn} {g : DSp} {M : Mem} {xs : List PV} {p : DSp → Prop} (h : p g) : ∃ k ys sp, obOf M (.v (.obj c xs)) = some (k, ys) ∧ gm1 c g k = some sp ∧ p sp := ⟨c, _, g, rfl, if_pos rfl, h⟩
/-! ### ranges, fields, cells -/
theorem k_rng2 {r : DA} {ds : DSt} {M : Mem} {R : List D → Mem → Prop} (h : r ds M fun xs M1 => ∃ i j : Int, xs = [vI i, vI j] ∧ (-(2 ^ 62) ≤ i ∧ i < 2 ^ 62 ∧ -(2 ^ 62) ≤ j ∧ j < 2 ^ 62) ∧ R ((List.range (j - i).toNat).map fun (k : Nat) => vI (i + k)) M1) : jRng2 r ds M R := h
theorem k_fo {M : Mem} {c : Cn} {xs : List PV} {f : Fd} {y : PV} {p : D → Prop} (e : xs[c.ix f]? = some y) (h : p (.v y)) : ∃ k ys y, obOf M (.v (.obj c xs)) = some (k, ys) ∧ ys[k.ix f]? = some y ∧ p y :=
  ⟨c, _, .v y, rfl, by rw [List.getElem?_map, e]; rfl, h⟩
theorem ixN_nat {n i : Nat} (h : i < n) : ixN n (i : Int) = some i := by
  unfold ixN
  split
  · split
    · simp
    · omega
  · omega
theorem atI_nat {α : Type} {z : List α} {i : Nat} {x : α} (h : z[i]? = some x) : atI z (i : Int) = some x := by
  unfold atI
  rw [ixN_nat (List.getElem?_eq_some_iff.mp h).1]
  exact h
theorem k_appAt {M : Mem} {Q : DQ} {i : Nat} {ys : List D} {d : D} (m : M[i]? = some (some (.lst ys))) (hl : ys.length < sizeLine) (h : Q (.v .non) (M.set i (some (.lst (ys ++ [d]))))) : uApp (.cell i) [d] M Q := ⟨i, ys, d, rfl, rfl, m, hl, h⟩
theorem ls_cell {M : Mem} {i : Nat} {ys : List D} (m : M[i]? = some (some (.lst ys))) : lsOf M (.cell i) = some ys := by
  show (match M[i]? with | some (some (Cell.lst ds)) => some ds | _ => none) = _
  rw [m]
theorem frz_cell {M : Mem} {i : Nat} {xs : List PV} (m : M[i]? = some (some (.lst (xs.map D.v)))) : frz M (.cell i) = some (.lst xs, M.set i none) := by
  show (match M[i]? with
    | some (some (.lst ds)) => (pures ds).map fun xs => (PV.lst xs, M.set i none)
    | some (some (.obj k ds)) => (pures ds).map fun xs => (PV.obj k xs, M.set i none)
    | _ => none) = _
  rw [m]
  show (pures (xs.map D.v)).map _ = _
  rw [pures_map]
  rfl
end Cl
/-! Own layer: str and repr, own and of texts; class methods, sums and objects in a try. -/
/-! Layer of values: str and repr; class methods and objects in a try. -/
/-! Own layer: two clauses, the first with a name; sums in a try. -/
/-! Layer of values: two clauses; sums and star objects in a try; lists of comprehensions that are changed. -/
namespace Cl
open PySem PySem.Spec PyProof.Rows L2 He ClX
section
variable {S : Sc} {te ta tb tf : TE} {da db de df : DE} {tt : TT} {dt : DT} {tr : TA} {dr : DA}
/-- a comprehension whose list is a cell from its beginning: its items may be cells -/
def dCompC (g : DG) (t : DT) (e : DE) (ds0 : DSt) (L : Nat) (Q : Mem → Prop) : List D → Mem → Prop
  | [], M => Q M
  | x :: xs, M => g x ds0 M fun ds2 M2 => t ds2 M2 fun b M3 => if b = true then e ds2 M3 fun y M4 => ∃ acc, M4[L]? = some (some (.lst acc)) ∧ acc.length < sizeLine ∧ dCompC g t e ds0 L Q xs (M4.set L (some (.lst (acc ++ [y])))) else dCompC g t e ds0 L Q xs M3
def dLcC (it : DI) (g : DG) (t : DT) (e : DE) (vs : List Nat) : DE := fun ds M Q => it ds M fun xs M1 => dCompC g t e (wipeD ds vs) M1.length (fun M2 => Q (.cell M1.length) M2) xs (M1 ++ [some (.lst [])])
theorem k_lcC {it : DI} {g : DG} {t : DT} {e : DE} {vs : List Nat} {ds : DSt} {M : Mem} {Q : DQ} (h : it ds M fun xs M1 => dCompC g t e (wipeD ds vs) M1.length (fun M2 => Q (.cell M1.length) M2) xs (M1 ++ [some (.lst [])])) : dLcC it g t e vs ds M Q := h
end
end Cl
/-! Layer of values: lists in cells compared, isinstance of them. -/
namespace Cl
open PySem PySem.Spec PyProof.Rows L2 He ClX
/-- what a value holds, cells looked through -/
def snap (M : Mem) : Nat → D → Option PV
  | _, .v x => some x
  | n + 1, .cell i => (match M[i]? with
    | some (some (.lst ds)) => (ds.mapM (snap M n)).map PV.lst
    | _ => none)
  | _, _ => none
theorem snap_v (M : Mem) (n : Nat) (x : PV) : snap M n (.v x) = some x := by cases n <;> rfl
theorem snap_c {M : Mem} {n i : Nat} {ds : List D} {xs : List PV} (m : M[i]? = some (some (.lst ds))) (h : ds.mapM (snap M n) = some xs) : snap M (n + 1) (.cell i) = some (.lst xs) := by
  show (match M[i]? with | some (some (Cell.lst ds)) => (ds.mapM (snap M n)).map PV.lst | _ => none) = _
  rw [m]
  show (ds.mapM (snap M n)).map PV.lst = _
  rw [h]
  rfl
theorem snap_vs {M : Mem} {n : Nat} : ∀ xs : List PV, (xs.map D.v).mapM (snap M n) = some xs
  | [] => rfl
  | x :: xs => by
    rw [List.map_cons, List.mapM_cons, snap_v, snap_vs xs]
    rfl
section
variable {S : Sc}
theorem snap_dp {c : CS} {M : Mem} (ok : S.Ok c M) : ∀ (n : Nat) (d : D) (v : V) (a : PV), S.Vd c d v → snap M n d = some a → isDat a = true → Dp S.K c.H v (pdat a) := by
  intro n
  induction n with
  | zero =>
    intro d v a r h hd
    cases d with
    | v x => cases h; exact Rp.dp ok.rl.same _ v hd r
    | cell i => cases h
    | exn e => cases h
  | succ n ih =>
    intro d v a r h hd
    cases d with
    | v x => cases h; exact Rp.dp ok.rl.same _ v hd r
    | exn e => cases h
    | cell i =>
      have h' : (match M[i]? with | some (some (Cell.lst ds)) => (ds.mapM (snap M n)).map PV.lst | _ => none) = some a := h
      split at h'
      · rename_i ds m
        cases hm : ds.mapM (snap M n) with
        | none => rw [hm] at h'; cases h'
        | some xs =>
          rw [hm] at h'
          cases h'
          obtain ⟨p, vs, rfl, g1, g2⟩ := ls_at ok r (ls_cell m)
          have key : ∀ (ds : List D) (vs : List V) (xs : List PV), A2 (RpD S.K S.cs c.F c.ρ) ds vs → ds.mapM (snap M n) = some xs → isDatL xs = true → DpAll S.K c.H vs (pdatL xs) := by
            intro ds
            induction ds with
            | nil =>
              intro vs xs g2 hm _
              cases g2
              cases hm
              exact .nil
            | cons d ds ih2 =>
              intro vs xs g2 hm hdl
              rw [List.mapM_cons] at hm
              cases hx : snap M n d with
              | none => rw [hx] at hm; cases hm
              | some x =>
                rw [hx] at hm
                cases hy : ds.mapM (snap M n) with
                | none => rw [hy] at hm; cases hm
                | some ys =>
                  rw [hy] at hm
                  cases hm
                  have hd2 : (isDat x && isDatL ys) = true := hdl
                  rw [Bool.and_eq_true] at hd2
                  cases g2 with
                  | cons r1 r2 => exact .cons (ih d _ x r1 hx hd2.1) (ih2 _ ys r2 hy hd2.2)
          exact .lst (sq_of g1) (key ds vs xs g2 hm hd)
      · cases h'
theorem snap_ref {c : CS} {M : Mem} (ok : S.Ok c M) {n : Nat} {d : D} {v : V} {xs : List PV} (r : S.Vd c d v) (h : snap M n d = some (.lst xs)) : ∃ p, v = .ref p := by
  cases d with
  | v x =>
    rw [snap_v] at h
    cases h
    obtain ⟨a, vs, e, _⟩ := r
    exact ⟨a, e⟩
  | cell i => obtain ⟨a, _, e⟩ := r; exact ⟨a, e⟩
  | exn e => cases n <;> cases h
/-- lists compared, cells looked through -/
def uEqD : DR2 := fun x y M Q => ∃ n xs ys, snap M n x = some (.lst xs) ∧ snap M n y = some (.lst ys) ∧ (PV.lst xs).lay 60 = true ∧ (PV.lst ys).lay 60 = true ∧ Q (vB (eqvP (.lst xs) (.lst ys))) M
theorem so_eqD : SimO S (zEq S.K) uEqD := fun c M x y dx dy Q Qd ok rx ry ⟨n, xs, ys, h1, h2, l1, l2, q⟩ po => by
  obtain ⟨p, rfl⟩ := snap_ref ok rx h1
  obtain ⟨p', rfl⟩ := snap_ref ok ry h2
  exact ⟨_, _, snap_dp ok n dx _ _ rx h1 (PV.lay_dat _ _ l1).1, snap_dp ok n dy _ _ ry h2 (PV.lay_dat _ _ l2).1, PV.lay_shaped l1, PV.lay_shaped l2, po_v ok po (d := vB _) rfl q⟩
end
end Cl
/-! Layer of values: walks of lists that are cells: at each turn the list is as it was. -/
namespace Cl
open PySem PySem.Spec PyProof.Rows L2 He ClX
/-- what is walked, with what must hold at each turn -/
abbrev DJ := DSt → Mem → ((Mem → Prop) → List D → Mem → Prop) → Prop
def dLoopG (G : Mem → Prop) (g : DG) (b : DS) (E : DEnds) : List D → DSt → Mem → Prop
  | [], ds, M => G M ∧ E.nx ds M
  | x :: xs, ds, M => G M ∧ g x ds M fun ds2 M2 => b { E with nx := dLoopG G g b E xs, ct := dLoopG G g b E xs, bk := E.nx } ds2 M2
def dForG (it : DJ) (g : DG) (b : DS) : DS := fun E ds M => it ds M fun G xs M1 => dLoopG G g b E xs ds M1
def dCompG (G : Mem → Prop) (g : DG) (t : DT) (e : DE) (ds0 : DSt) (Q : List PV → Mem → Prop) : List D → List PV → Mem → Prop
  | [], acc, M => G M ∧ Q acc M
  | x :: xs, acc, M => G M ∧ g x ds0 M fun ds2 M2 => t ds2 M2 fun b M3 => if b = true then e ds2 M3 fun y M4 => ∃ z, y = .v z ∧ acc.length < sizeLine ∧ dCompG G g t e ds0 Q xs (acc ++ [z]) M4 else dCompG G g t e ds0 Q xs acc M3
def dLcG (it : DJ) (g : DG) (t : DT) (e : DE) (vs : List Nat) : DE := fun ds M Q => it ds M fun G xs M1 => dCompG G g t e (wipeD ds vs) (fun acc M2 => Q (vL acc) M2) xs [] M1
def dCompCG (G : Mem → Prop) (g : DG) (t : DT) (e : DE) (ds0 : DSt) (L : Nat) (Q : Mem → Prop) : List D → Mem → Prop
  | [], M => G M ∧ Q M
  | x :: xs, M => G M ∧ g x ds0 M fun ds2 M2 => t ds2 M2 fun b M3 => if b = true then e ds2 M3 fun y M4 => ∃ acc, M4[L]? = some (some (.lst acc)) ∧ acc.length < sizeLine ∧ dCompCG G g t e ds0 L Q xs (M4.set L (some (.lst (acc ++ [y])))) else dCompCG G g t e ds0 L Q xs M3
def dLcCG (it : DJ) (g : DG) (t : DT) (e : DE) (vs : List Nat) : DE := fun ds M Q => it ds M fun G xs M1 => dCompCG G g t e (wipeD ds vs) M1.length (fun M2 => Q (.cell M1.length) M2) xs (M1 ++ [some (.lst [])])
/-- a list, data or a cell -/
def jLs (a : DE) : DJ := fun ds M R => a ds M fun x M1 => ∃ xs, lsOf M1 x = some xs ∧ R (fun M' => lsOf M' x = some xs) xs M1
section
variable {S : Sc} {ts : TS} {dss : DS} {tt : TT} {dt : DT} {te ta : TE} {de da : DE}
def WkG (S : Sc) (c : CS) (J : It) (xs : List D) (G : Mem → Prop) : Prop := ∀ (i : Nat) c' M', Same c.F c'.F → c.ρ <+: c'.ρ → Rel S.K S.cs c' M' → G M' → (xs.length = i → J.stop i c'.H) ∧ ∀ d, xs[i]? = some d → J.go i c'.H ∧ ∀ x H', J.yld i c'.H x H' → ∃ c'', c''.H = H' ∧ Step c' M' c'' M' ∧ Rel S.K S.cs c'' M' ∧ S.Vd c'' d x
def SimJ (S : Sc) (t : TI) (d : DJ) : Prop := ∀ c M σ ds R Rd, S.Ok c M → S.St c ds σ → d ds M Rd → (∀ c' M' J xs G, Step c M c' M' → Rel S.K S.cs c' M' → WkG S c' J xs G → Rd G xs M' → R J c'.H) → t σ c.H R
theorem dLoopG.g {G : Mem → Prop} {g : DG} {b : DS} {E : DEnds} {ds : DSt} {M : Mem} : ∀ {xs : List D}, dLoopG G g b E xs ds M → G M
  | [], h => h.1
  | _ :: _, h => h.1
theorem dCompG.g {G : Mem → Prop} {g : DG} {t : DT} {e : DE} {ds : DSt} {Q : List PV → Mem → Prop} {acc : List PV} {M : Mem} : ∀ {xs : List D}, dCompG G g t e ds Q xs acc M → G M
  | [], h => h.1
  | _ :: _, h => h.1
theorem dCompCG.g {G : Mem → Prop} {g : DG} {t : DT} {e : DE} {ds : DSt} {L : Nat} {Q : Mem → Prop} {M : Mem} : ∀ {xs : List D}, dCompCG G g t e ds L Q xs M → G M
  | [], h => h.1
  | _ :: _, h => h.1
theorem sim_jls (ha : SimE S ta da) : SimJ S (iList S.K ta) (jLs da) := fun c M σ ds R Rd ok rs q po =>
  ha c M σ ds _ _ ok rs q fun c1 M1 v1 d1 s1 r1 p1 ⟨xs, e, q1⟩ => by
    have ok1 := ok.step s1 r1
    obtain ⟨a, vs, rfl, h1, h2⟩ := ls_at ok1 p1 e
    refine ⟨a, rfl, ⟨vs, sq_of h1⟩, po c1 M1 _ _ _ s1 r1 (fun i c' M' s p r hg => ?_) q1⟩
    have p1' : S.Vd c' d1 (.ref a) := RpD.mono s p p1
    obtain ⟨a', ws, ea, g1, g2⟩ := ls_at (S := ⟨S.K, S.cs, c', M'⟩) ⟨Step.refl _ _, r⟩ p1' hg
    cases ea
    have w := walk_list (K := S.K) (a := a) (xs := ws)
    have g := sq_of (K := S.K) g1
    have hn := g2.len
    refine ⟨fun e => by subst e; rw [hn]; exact w.stops _ g, fun d e => ?_⟩
    have hi : i < ws.length := by rw [← hn]; exact (List.getElem?_eq_some_iff.mp e).1
    refine ⟨w.goes i _ hi g, fun x H' y => ?_⟩
    obtain ⟨e1, e2⟩ := w.yields i _ x H' hi g y
    obtain ⟨v, e3, e4⟩ := g2.get e
    rw [e2] at e3
    cases e3
    exact ⟨c', e1.symm, Step.refl _ _, r, e4⟩
theorem sim_forG {ti : TI} {di : DJ} {g : TG} {dg : DG} (hi : SimJ S ti di) (hg : SimG S g dg) (hb : SimS S ts dss) : SimS S (tFor ti g ts) (dForG di dg dss) := fun c M σ ds E Ed ok rs q po =>
  hi c M σ ds _ _ ok rs q fun c1 M1 J xs G s1 r1 wk q1 => by
    refine ⟨fun i m σ' H' => ∃ c2 M2 ds2, c2.H = H' ∧ m = xs.length - i ∧ i ≤ xs.length ∧ Step c1 M1 c2 M2 ∧ Rel S.K S.cs c2 M2 ∧ S.St c2 ds2 σ' ∧ dLoopG G dg dss Ed (xs.drop i) ds2 M2, ⟨xs.length, c1, M1, ds, rfl, rfl, Nat.zero_le _, Step.refl _ _, r1, rs.step s1, q1⟩, ?_⟩
    rintro i m σ' H' ⟨c2, M2, ds2, rfl, rfl, hi, s2, r2, p2, q2⟩
    obtain ⟨w1, w2⟩ := wk i c2 M2 s2.same s2.pre r2 q2.g
    by_cases hlt : i < xs.length
    · obtain ⟨g1, g2⟩ := w2 xs[i] (by simp [hlt])
      rw [List.drop_eq_getElem_cons hlt] at q2
      refine Or.inr ⟨g1, fun σ'' H'' => ∃ c3 M3 ds3, c3.H = H'' ∧ Step c1 M1 c3 M3 ∧ Rel S.K S.cs c3 M3 ∧ S.St c3 ds3 σ'' ∧ dLoopG G dg dss Ed (xs.drop (i + 1)) ds3 M3, fun σ'' H'' ⟨c3, M3, ds3, e, s3, r3, p3, q3⟩ => ⟨xs.length - (i + 1), by omega, c3, M3, ds3, e, rfl, hlt, s3, r3, p3, q3⟩, fun x H'' hy => ?_⟩
      obtain ⟨c3, rfl, s3, r3, p3⟩ := g2 x H'' hy
      have ok2 := (ok.step s1 r1).step s2 r2
      refine hg c3 M2 σ' ds2 _ _ _ _ (ok2.step s3 r3) (p2.step s3) p3 q2.2 fun c4 M4 σ4 ds4 s4 r4 p4 q4 => ?_
      have st : Step c1 M1 c4 M4 := s2.trans (s3.trans s4)
      have ps : PoS S c4 M4 (dLoopG G dg dss Ed (xs.drop (i + 1))) (fun σ'' H'' => ∃ c3 M3 ds3, c3.H = H'' ∧ Step c1 M1 c3 M3 ∧ Rel S.K S.cs c3 M3 ∧ S.St c3 ds3 σ'' ∧ dLoopG G dg dss Ed (xs.drop (i + 1)) ds3 M3) := fun c5 M5 σ5 ds5 s5 r5 p5 q5 => ⟨c5, M5, ds5, rfl, st.trans s5, r5, p5, q5⟩
      have po4 := po.step (s1.trans st)
      exact hb c4 M4 σ4 ds4 _ _ ((ok2.step s3 r3).step s4 r4) p4 q4 ⟨ps, po4.rt, po4.nx, ps⟩
    · have e : xs.length = i := by omega
      rw [← e, List.drop_length] at q2
      exact Or.inl ⟨w1 e, po.nx c2 M2 σ' ds2 (s1.trans s2) r2 p2 q2.2⟩
theorem sim_lcG {ti : TI} {di : DJ} {g : TG} {dg : DG} {vs : List Nat} (own : GOwn g vs) (hi : SimJ S ti di) (hg : SimG S g dg) (ht : SimT S tt dt) (he : SimE S te de) : SimE S (tLc ti g tt te vs) (dLcG di dg dt de vs) := fun c M σ ds Q Qd ok rs q po =>
  hi c M σ ds _ _ ok rs q fun c1 M1 J xs G s1 r1 wk q1 => by
    intro P hP
    have ok1 := ok.step s1 r1
    obtain ⟨r2, s2⟩ := r1.beside hP (.lst [])
    have rs1 := rs.step s1
    obtain ⟨hPF, hPρ⟩ := r1.fresh hP
    -- the state at a turn
    refine ⟨fun i m H' => ∃ c2 M2 acc vs2, c2.H = H' ∧ m = xs.length - i ∧ i ≤ xs.length ∧ Step c1 M1 c2 M2 ∧ Rel S.K S.cs c2 M2 ∧ c2.H P = some (.lst vs2) ∧ c2.F P = none ∧ ¬ Live c2.ρ M2 P ∧ RpL S.K S.cs c2.F acc vs2 ∧ dCompG G dg dt de (wipeD ds vs) (fun acc M2 => Qd (vL acc) M2) (xs.drop i) acc M2,
      ⟨xs.length, ⟨c1.F, c1.ρ, upd c1.H P (.lst [])⟩, M1, [], [], rfl, rfl, Nat.zero_le _, s2, r2, upd_same, hPF, r1.nlive hP, (rfl : ([] : List V) = []), q1⟩, ?_⟩
    rintro i m H' ⟨c2, M2, acc, vs2, rfl, rfl, hi, s2, r2, hP1, hP2, hP3, ra, q2⟩
    obtain ⟨w1, w2⟩ := wk i c2 M2 s2.same s2.pre r2 q2.g
    by_cases hlt : i < xs.length
    · obtain ⟨g1, g2⟩ := w2 xs[i] (by simp [hlt])
      rw [List.drop_eq_getElem_cons hlt] at q2
      refine Or.inr ⟨g1, fun H'' => ∃ c3 M3 acc3 vs3, c3.H = H'' ∧ Step c1 M1 c3 M3 ∧ Rel S.K S.cs c3 M3 ∧ c3.H P = some (.lst vs3) ∧ c3.F P = none ∧ ¬ Live c3.ρ M3 P ∧ RpL S.K S.cs c3.F acc3 vs3 ∧ dCompG G dg dt de (wipeD ds vs) (fun acc M2 => Qd (vL acc) M2) (xs.drop (i + 1)) acc3 M3,
        fun H'' ⟨c3, M3, acc3, vs3, e, s3, r3, h1, h2, h3, h4, h5⟩ => ⟨xs.length - (i + 1), by omega, c3, M3, acc3, vs3, e, rfl, hlt, s3, r3, h1, h2, h3, h4, h5⟩, fun x H'' hy => own _ _ _ _ ?_⟩
      obtain ⟨c3, rfl, s3, r3, p3⟩ := g2 x H'' hy
      have ok2 := ok1.step s2 r2
      have rs3 : S.St c3 (wipeD ds vs) (wipe σ vs) := wipe_rp ((rs1.step s2).step s3) vs
      have okP3 := s3.frame P _ hP1 hP2 hP3
      refine hg c3 M2 (wipe σ vs) (wipeD ds vs) _ _ _ _ (ok2.step s3 r3) rs3 p3 q2.2 fun c4 M4 σ4 ds4 s4 r4 p4 q4 => ?_
      have okP4 := s4.frame P _ okP3.1 okP3.2.1 okP3.2.2
      have ok4 := (ok2.step s3 r3).step s4 r4
      refine ht c4 M4 σ4 ds4 _ _ ok4 p4 q4 fun c5 M5 b s5 r5 q5 => ?_
      have okP5 := s5.frame P _ okP4.1 okP4.2.1 okP4.2.2
      have st5 : Step c1 M1 c5 M5 := s2.trans (s3.trans (s4.trans s5))
      cases b with
      | false => exact ⟨c5, M5, acc, vs2, rfl, st5, r5, okP5.1, okP5.2.1, okP5.2.2, RpL.same (s3.same.trans (s4.same.trans s5.same)) _ _ ra, q5⟩
      | true =>
        refine he c5 M5 σ4 ds4 _ _ (ok4.step s5 r5) (p4.step s5) q5 fun c6 M6 v6 d6 s6 r6 p6 ⟨z, e6, hl, q6⟩ => ?_
        subst e6
        have okP6 := s6.frame P _ okP5.1 okP5.2.1 okP5.2.2
        have ra6 := RpL.same (K := S.K) (cs := S.cs) (s3.same.trans (s4.same.trans (s5.same.trans s6.same))) _ _ ra
        refine ⟨vs2, okP6.1, by rw [← ra.len]; exact hl, ⟨c6.F, c6.ρ, upd c6.H P (.lst (vs2 ++ [v6]))⟩, M6, acc ++ [z], vs2 ++ [v6], rfl, ?_, r6.beside_set okP6.1 okP6.2.1 okP6.2.2 _, upd_same, okP6.2.1, okP6.2.2, (ra6.a2.append (.cons p6 .nil)).rpL, q6⟩
        have st6 := st5.trans s6
        refine ⟨st6.same, st6.pre, fun a o h1 h2 h3 => ?_⟩
        obtain ⟨k1, k2, k3⟩ := st6.frame a o h1 h2 h3
        have hne : a ≠ P := fun z => by rw [z, hP] at h1; cases h1
        exact ⟨by show upd c6.H P (.lst (vs2 ++ [v6])) a = some o; rw [upd_ne hne]; exact k1, k2, k3⟩
    · have e : xs.length = i := by omega
      rw [← e, List.drop_length] at q2
      refine Or.inl ⟨w1 e, ?_⟩
      have r3 := r2.beside_lay hP1 hP2 hP3
      have sF : Same c2.F (upd c2.F P (.lst vs2)) := same_upd hP2
      refine po ⟨upd c2.F P (.lst vs2), c2.ρ, c2.H⟩ M2 (.ref P) (vL acc) (s1.trans ⟨s2.same.trans sF, s2.pre, fun a o h1 h2 h3 => ?_⟩) r3 ⟨P, vs2, rfl, upd_same, RpL.same sF _ _ ra⟩ q2.2
      obtain ⟨k1, k2, k3⟩ := s2.frame a o h1 h2 h3
      have hne : a ≠ P := fun z => by rw [z, hP] at h1; cases h1
      exact ⟨k1, by show upd c2.F P (.lst vs2) a = none; rw [upd_ne hne]; exact k2, k3⟩
end
/-! ### steps -/
section
variable {g : DG} {t : DS} {tt : DT} {e : DE} {E : DEnds} {ds : DSt} {M : Mem} {G : Mem → Prop}
theorem loopG_inv {xs : List D} (I : Nat → DSt → Mem → Prop) (h0 : I 0 ds M) (hG : ∀ i ds M, I i ds M → G M) (hs : ∀ i x ds M (N : DSt → Mem → Prop), xs[i]? = some x → I i ds M → (∀ ds' M', I (i + 1) ds' M' → N ds' M') → g x ds M fun ds2 M2 => t { E with nx := N, ct := N, bk := E.nx } ds2 M2) (hd : ∀ ds M, I xs.length ds M → E.nx ds M) : dLoopG G g t E xs ds M := by
  have key : ∀ (ys : List D) (i : Nat) (ds : DSt) (M : Mem), xs.drop i = ys → i ≤ xs.length → I i ds M → dLoopG G g t E ys ds M := by
    intro ys
    induction ys with
    | nil =>
      intro i ds M e hi hI
      have : xs.length ≤ i := List.drop_eq_nil_iff.mp e
      have : i = xs.length := by omega
      subst this
      exact ⟨hG _ _ _ hI, hd ds M hI⟩
    | cons y ys ih =>
      intro i ds M e hi hI
      have hlt : i < xs.length := by
        rcases Nat.lt_or_ge i xs.length with h | h
        · exact h
        · rw [List.drop_eq_nil_iff.mpr h] at e
          cases e
      rw [List.drop_eq_getElem_cons hlt] at e
      cases e
      exact ⟨hG _ _ _ hI, hs i _ ds M (dLoopG G g t E (xs.drop (i + 1))) (by simp [hlt]) hI fun ds' M' hI' => ih (i + 1) ds' M' rfl hlt hI'⟩
  exact key xs 0 ds M rfl (Nat.zero_le _) h0
theorem compG_inv {P : List PV → Mem → Prop} {xs : List D} (I : Nat → List PV → Mem → Prop) (h0 : I 0 [] M) (hG : ∀ i acc M, I i acc M → G M) (hs : ∀ i x acc M (N : List PV → Mem → Prop), xs[i]? = some x → I i acc M → (∀ acc' M', I (i + 1) acc' M' → N acc' M') → g x ds M fun ds2 M2 => tt ds2 M2 fun b M3 => if b = true then e ds2 M3 fun y M4 => ∃ z, y = .v z ∧ acc.length < sizeLine ∧ N (acc ++ [z]) M4 else N acc M3) (hd : ∀ acc M, I xs.length acc M → P acc M) : dCompG G g tt e ds P xs [] M := by
  have key : ∀ (ys : List D) (i : Nat) (acc : List PV) (M : Mem), xs.drop i = ys → i ≤ xs.length → I i acc M → dCompG G g tt e ds P ys acc M := by
    intro ys
    induction ys with
    | nil =>
      intro i acc M e hi hI
      have : xs.length ≤ i := List.drop_eq_nil_iff.mp e
      have : i = xs.length := by omega
      subst this
      exact ⟨hG _ _ _ hI, hd acc M hI⟩
    | cons y ys ih =>
      intro i acc M q hi hI
      have hlt : i < xs.length := by
        rcases Nat.lt_or_ge i xs.length with h | h
        · exact h
        · rw [List.drop_eq_nil_iff.mpr h] at q
          cases q
      rw [List.drop_eq_getElem_cons hlt] at q
      cases q
      exact ⟨hG _ _ _ hI, hs i _ acc M (fun acc M => dCompG G g tt e ds P (xs.drop (i + 1)) acc M) (by simp [hlt]) hI fun acc' M' hI' => ih (i + 1) acc' M' rfl hlt hI'⟩
  exact key xs 0 [] M rfl (Nat.zero_le _) h0
variable {a : DE} {it : DJ} {vs : List Nat} {Q : DQ}
theorem k_forG (h : it ds M fun G xs M1 => dLoopG G g t E xs ds M1) : dForG it g t E ds M := h
theorem k_jls {R : (Mem → Prop) → List D → Mem → Prop} (h : a ds M fun x M1 => ∃ xs, lsOf M1 x = some xs ∧ R (fun M' => lsOf M' x = some xs) xs M1) : jLs a ds M R := h
theorem k_lcG (h : it ds M fun G xs M1 => dCompG G g tt e (wipeD ds vs) (fun acc M2 => Q (vL acc) M2) xs [] M1) : dLcG it g tt e vs ds M Q := h
theorem k_lcCG (h : it ds M fun G xs M1 => dCompCG G g tt e (wipeD ds vs) M1.length (fun M2 => Q (.cell M1.length) M2) xs (M1 ++ [some (.lst [])])) : dLcCG it g tt e vs ds M Q := h
end
end Cl
/-! Layer of values: dicts that are cells: keys ints and texts, keys nested tuples. -/
namespace Cl
open PySem PySem.Spec PyProof.Rows L2 He ClX
mutual
/-- a key to the depth n -/
def PV.kk : Nat → PV → Bool
  | _, .non => true
  | _, .int _ => true
  | _, .str _ => true
  | n + 1, .tup xs => PV.kkL n xs
  | _, _ => false
def PV.kkL : Nat → List PV → Bool
  | _, [] => true
  | n, x :: xs => PV.kk n x && PV.kkL n xs
end
/-- a key -/
def kOk (x : PV) : Prop := (∃ xs, x = .tup xs) ∧ x.kk 8 = true
abbrev dnE (hs : PV → Int) (kvs : List (PV × D)) : List (PV × Int × D) := kvs.map fun p => (p.1, hs p.1, p.2)
/-- the cell i is a dict with nested keys -/
structure IsN (hs : PV → Int) (M : Mem) (i : Nat) (kvs : List (PV × D)) : Prop where
  at_ : M[i]? = some (some (.dnn (dnE hs kvs)))
  ok : ∀ p ∈ kvs, kOk p.1
  nd : (kvs.map (·.1)).Nodup
  len : kvs.length ≤ sizeLine
section
variable {S : Sc} {c : CS} {M : Mem} {w : World}
/-- the pairs behind d[k] = x -/
def putD (k : PV) (d : D) (kvs kvs' : List (PV × D)) : Prop := (k ∉ kvs.map (·.1) ∧ kvs' = kvs ++ [(k, d)]) ∨ ∃ i d0, kvs[i]? = some (k, d0) ∧ kvs' = kvs.set i (k, d)
def dPutN (hs : PV → Int) (o i v : DE) : DS := fun E ds M => v ds M fun d M1 => o ds M1 fun x M2 => i ds M2 fun y M3 => ∃ n k kvs kvs', x = .cell n ∧ y = .v k ∧ kOk k ∧ IsN hs M3 n kvs ∧ putD k d kvs kvs' ∧ E.nx ds (M3.set n (some (.dnn (dnE hs kvs'))))
/-- {} -/
def dNewN : DE := fun _ M Q => Q (.cell M.length) (M ++ [some (.dnn [])])
/-! ### keys ints and texts -/
def dNewK : DE := fun _ M Q => Q (.cell M.length) (M ++ [some (.dct [])])
/-- d[k] = v -/
def dPutK (o i v : DE) : DS := fun E ds M => v ds M fun d M1 => o ds M1 fun x M2 => i ds M2 fun y M3 => ∃ n k kvs, x = .cell n ∧ y = kD k ∧ M3[n]? = some (some (.dct kvs)) ∧ kvs.length < sizeLine ∧ E.nx ds (M3.set n (some (.dct (putG kvs k d))))
end
end Cl
/-! Layer of values: displays of dicts that are cells; d.get(k, x), keys nested. -/
namespace Cl
open PySem PySem.Spec PyProof.Rows L2 He ClX
/-- no new cell is dead -/
def Alive (M M1 : Mem) : Prop := ∀ i, M.length ≤ i → i < M1.length → ∃ x, M1[i]? = some (some x)
section
variable {S : Sc}
/-- {k: v, ..}, a cell -/
def dDispC (ps : List (DE × DE)) : DE := fun ds M Q => dPairs ps ds M fun qs M1 => ∃ kvs : List (Key × D), qs = kvs.map (fun kv => (kD kv.1, kv.2)) ∧ kvs.length ≤ 15 ∧ Alive M M1 ∧ Q (.cell M1.length) (M1 ++ [some (.dct (mergeG kvs))])
/-- {k: v}, the key a tuple -/
def dDispN (hs : PV → Int) (k v : DE) : DE := fun ds M Q => dPairs [(k, v)] ds M fun qs M1 => ∃ x d, qs = [(.v x, d)] ∧ kOk x ∧ Alive M M1 ∧ Q (.cell M1.length) (M1 ++ [some (.dnn (dnE hs [(x, d)]))])
end
end Cl
/-! Own layer: index, find of a sign in a text. -/
/-! Layer of values: index, find of a sign. -/
/-! The layer of values, part 8: what the program's defs and the laws' helpers promise: bags, alphabets, stages. -/
namespace Cl
open PySem PySem.Spec PyProof.Rows L2 He ClX
/-! ### the bag -/
def IsBag (c : Cell) : Prop := ∃ (ns : List Int) (pos rest seed : Int), c = .lst [vL (ns.map PV.int), vI pos, vI rest, vI seed] ∧ 0 ≤ pos
theorem IsBag.low {c : Cell} {n : Nat} (h : IsBag c) : c.low n := by
  obtain ⟨ns, pos, rest, seed, rfl, _⟩ := h
  intro i m
  simp at m
/-- at i stands a bag -/
def Bg (M : Mem) (i : Nat) : Prop := ∃ c, M[i]? = some (some c) ∧ IsBag c
/-- only the bag at i has changed -/
def Bd (i : Nat) (M M' : Mem) : Prop := ∃ c, IsBag c ∧ M' = M.set i (some c)
def g_l_bag : DSp := fun ds M Q _ => ∃ ns, ds = [.v (.scr ns)] ∧ ∀ c, IsBag c → Q (.cell M.length) (M ++ [some c])
def g_l_take : DSp := fun ds M Q _ => ∃ (b : Nat) (n : Int), ds = [.cell b, vI n] ∧ Bg M b ∧ 0 < n ∧ n < 1152921504606846976 ∧ ∀ (r : Nat) M', (r : Int) < n → Bd b M M' → Q (vI r) M'
/-! ### alphabets -/
def alph (ls vw : List Nat) : PV := .obj .Alphabet [.str ls, .str vw, .str (cons ls vw), .str (45 :: ls)]
def g_all_different : DSp := fun ds M Q _ => ∃ z, ds = [vS z] ∧ z.length ≤ 1000 ∧ Q (vB (decide z.Nodup)) M
def g_Alphabet_init : DSp := fun ds M Q E => ∃ n ls vw, ds = [.cell n, vS ls, vS vw] ∧ M[n]? = some (some (.obj .Alphabet [])) ∧ ls.length ≤ 60 ∧ vw.length ≤ 60 ∧
  (¬ okL ls → E ⟨.BadAlphabet, [.str txL]⟩ M) ∧ (okL ls → ¬ okV ls vw → E ⟨.BadAlphabet, [.str txV]⟩ M) ∧
  (okL ls → okV ls vw → Q (.v .non) (M.set n (some (.obj .Alphabet ([.str (srt ls), .str (srt vw), .str (cons (srt ls) vw), .str (45 :: srt ls)].map D.v)))))
def g_Alphabet_is_word : DSp := fun ds M Q _ => ∃ ls vw z, ds = [.v (alph ls vw), vS z] ∧ Q (vB (isW ls z)) M
/-! ### the laws' own -/
def g_l_letters : DSp := fun ds M Q _ => ∃ (b top : Nat), ds = [.cell b, vI top] ∧ Bg M b ∧ 1 ≤ top ∧ top ≤ 8 ∧ ∀ ls M', okL ls → ls.Pairwise (· < ·) → ls.length ≤ top → Bd b M M' → Q (vS ls) M'
def g_l_vowels : DSp := fun ds M Q _ => ∃ (b : Nat) (ls : List Nat), ds = [.cell b, vS ls] ∧ Bg M b ∧ ls.length ≤ 26 ∧ ∀ vw M', vw.Sublist ls → Bd b M M' → Q (vS vw) M'
def g_l_word : DSp := fun ds M Q _ => ∃ (b : Nat) (sg : List Nat) (top : Nat), ds = [.cell b, vS sg, vI top] ∧ Bg M b ∧ 1 ≤ sg.length ∧ sg.length ≤ 60 ∧ top ≤ 60 ∧ ∀ z M', (∀ c ∈ z, c ∈ sg) → z.length ≤ top → Bd b M M' → Q (vS z) M'
/-! ### stages -/
inductive Stg where
  | drop (nm ch : List Nat) (a : Nat) (each last : Bool)
  | write (x : Nat) (nm ch : List Nat)
  | once (nm ch : List Nat)
  | add (x : Nat)
def Stg.cls : Stg → Cn
  | .drop _ _ _ _ l => if l then .LastDrop else .Drop
  | .write _ _ _ => .Write
  | .once _ _ => .Once
  | .add _ => .Add
/-- the state of a stage: a count, a sign that waits or that was before -/
structure Sta where
  n : Nat := 0
  w : List Nat := []
def Stg.val : Stg → Sta → PV
  | .drop _ _ _ _ l, s => if l then .tup [.int s.n, .str s.w] else .int s.n
  | .once _ _, s => .str s.w
  | _, _ => .int 0
def dropN (ch : List Nat) (a : Nat) (each : Bool) (n c : Nat) : Nat := if each = true ∧ c = 45 then 0 else if n < a then n + 1 else n
def dropO (ch : List Nat) (a : Nat) (each : Bool) (n c : Nat) : List Nat := if each = true ∧ c = 45 then [c] else if n < a then [c] else if c ∈ ch then [] else [c]
def Stg.step : Stg → Sta → Nat → Sta
  | .drop _ ch a e l, s, c => if l = true then { n := dropN ch a e s.n c, w := if e = true ∧ c = 45 then [] else if dropO ch a e s.n c = [] then [c] else [] } else { n := dropN ch a e s.n c, w := [] }
  | .once _ _, _, c => { w := [c] }
  | _, _, _ => {}
def Stg.out : Stg → Sta → Nat → List Nat
  | .drop _ ch a e l, s, c => if l = true ∧ e = true ∧ c = 45 then s.w ++ dropO ch a e s.n c else dropO ch a e s.n c
  | .write x _ ch, _, c => if c ∈ ch then [x] else [c]
  | .once _ ch, s, c => if [c] = s.w ∧ c ∈ ch then [] else [c]
  | .add _, _, c => [c]
def Stg.fin : Stg → Sta → List Nat
  | .drop _ _ _ _ l, s => if l = true then s.w else []
  | .add x, _ => [x]
  | _, _ => []
/-- states that come about: what waits is one sign at most -/
def Sta.ok (s : Sta) : Prop := s.w.length ≤ 1
def Stg.go (st : Stg) : Sta → List Nat → List Nat
  | s, [] => st.fin s
  | s, c :: z => st.out s c ++ st.go (st.step s c) z
def Stg.run (st : Stg) (z : List Nat) : List Nat := st.go {} z
def dig : Nat → List Nat := fun n => [48 + n]
def Stg.text : Stg → List Nat
  | .drop nm _ a e l => [100, 114, 111, 112, 32] ++ nm ++ (if 0 < a then [32, 97, 102, 116, 101, 114, 32] ++ dig a else []) ++ (if e = true then [32, 101, 97, 99, 104] else []) ++ (if l = true then [32, 98, 117, 116, 32, 108, 97, 115, 116] else [])
  | .write x nm _ => [119, 114, 105, 116, 101, 32] ++ [x] ++ [32, 102, 111, 114, 32] ++ nm
  | .once nm _ => [111, 110, 99, 101, 32] ++ nm
  | .add x => [97, 100, 100, 32] ++ [x]
/-- the stage is one over the alphabet -/
def Stg.ok (ls vw : List Nat) : Stg → Prop
  | .drop nm ch a _ _ => okN ls nm ∧ ch = mem ls vw nm ∧ nm.length ≤ 60 ∧ a ≤ 3
  | .write x nm ch => x ∈ 45 :: ls ∧ okN ls nm ∧ ch = mem ls vw nm ∧ nm.length ≤ 60
  | .once nm ch => okN ls nm ∧ ch = mem ls vw nm ∧ nm.length ≤ 60
  | .add x => x ∈ 45 :: ls
/-! ### which def a method is -/
def gm_is_word : Cn → Option DSp
  | .Alphabet => some g_Alphabet_is_word
  | _ => none
theorem gn_of {g : Cn → Option DSp} {m : Str} (ks : List Cn) (hk : ∀ k, (g k).isSome = true → k ∈ ks) (h : (ks.all fun k => k.flds.all fun f => decide (f.str ≠ m)) = true) : ∀ k, (g k).isSome = true → ∀ f ∈ k.flds, f.str ≠ m := fun k q f hf =>
  of_decide_eq_true (List.all_eq_true.mp (List.all_eq_true.mp h k (hk k q)) f hf)
theorem gn_is_word : ∀ k, (gm_is_word k).isSome = true → ∀ f ∈ k.flds, f.str ≠ "is_word" := gn_of [.Alphabet] (fun k h => by cases k <;> first | (cases h; done) | simp) (by decide +kernel)
section
variable (ds : List D) (M : Mem) (Q : DQ) (E : DX)
theorem len_g_l_bag (h : g_l_bag ds M Q E) : ds.length = 1 := by obtain ⟨_, rfl, _⟩ := h; rfl
theorem len_g_l_take (h : g_l_take ds M Q E) : ds.length = 2 := by obtain ⟨_, _, rfl, _⟩ := h; rfl
theorem len_g_all_different (h : g_all_different ds M Q E) : ds.length = 1 := by obtain ⟨_, rfl, _⟩ := h; rfl
theorem len_g_Alphabet_init (h : g_Alphabet_init ds M Q E) : ds.length = 3 := by obtain ⟨_, _, _, rfl, _⟩ := h; rfl
theorem len_g_Alphabet_is_word (h : g_Alphabet_is_word ds M Q E) : ds.length = 2 := by obtain ⟨_, _, _, rfl, _⟩ := h; rfl
theorem len_g_l_letters (h : g_l_letters ds M Q E) : ds.length = 2 := by obtain ⟨_, _, rfl, _⟩ := h; rfl
theorem len_g_l_vowels (h : g_l_vowels ds M Q E) : ds.length = 2 := by obtain ⟨_, _, rfl, _⟩ := h; rfl
theorem len_g_l_word (h : g_l_word ds M Q E) : ds.length = 3 := by obtain ⟨_, _, _, rfl, _⟩ := h; rfl
end
end Cl
namespace Cl
open PySem PySem.Spec PyProof.Rows L2 He ClX
def r_all_different : DS :=
  dRet (dOp uEq (dLenSet (dCons (dVar 0) dNil)) (dCB uLen (dCons (dVar 0) dNil)))
def r_Alphabet_init (E : DX) : DS :=
  dSeq (dAsg (dLc (jStr (dVar 1)) (hName 4) (dTest (dOp uNotIn (dVar 4) (dC (.str [97, 98, 99, 100, 101, 102, 103, 104, 105, 106, 107, 108, 109, 110, 111, 112, 113, 114, 115, 116, 117, 118, 119, 120, 121, 122])))) (dVar 4) [4]) (hName 3)) (dSeq (dIfS (dOr (dTru (dVar 3)) (dOr (dNot (dTest (dChain uLe uLe (dC (.int 1)) (dCB uLen (dCons (dVar 1) dNil)) (dC (.int 8))))) (dNot (dTru (dCall g_all_different noX (dCons (dVar 1) dNil)))))) (dRaise .BadAlphabet E (dCons (dC (.str [108, 101, 116, 116, 101, 114, 115])) dNil)) dNext) (dSeq (dIfS (dOr (dTru (dLc (jStr (dVar 2)) (hName 4) (dTest (dOp uNotIn (dVar 4) (dVar 1))) (dVar 4) [4])) (dNot (dTru (dCall g_all_different noX (dCons (dVar 2) dNil))))) (dRaise .BadAlphabet E (dCons (dC (.str [118, 111, 119, 101, 108, 115])) dNil)) dNext) (dSeq (dStF (dVar 0) (dBm tyS uJoin (dC (.str [])) (dCons (dCB uSrt (dCons (dVar 1) dNil)) dNil)) .letters) (dSeq (dStF (dVar 0) (dBm tyS uJoin (dC (.str [])) (dCons (dCB uSrt (dCons (dVar 2) dNil)) dNil)) .vowels) (dSeq (dStF (dVar 0) (dBm tyS uJoin (dC (.str [])) (dCons (dLc (jLst (dCB uSrt (dCons (dVar 1) dNil))) (hName 4) (dTest (dOp uNotIn (dVar 4) (dVar 2))) (dVar 4) [4]) dNil)) .consonants) (dStF (dVar 0) (dOp uAdd (dC (.str [45])) (dFld (dVar 0) .letters)) .signs))))))
def r_Alphabet_is_word : DS :=
  dSeq (dFor (jStr (dVar 1)) (hName 2) (dIfS (dTest (dOp uNotIn (dVar 2) (dFld (dVar 0) .signs))) (dRet (dC (.bl false))) dNext)) (dRet (dC (.bl true)))
def r_l_bag : DS :=
  dRet (dLstC (dCons (dCB uList (dCons (dSl uSl (dVar 0) dNoPart (dPart (dC (.int 63)))) dNil)) (dCons (dC (.int 0)) (dCons (dC (.int 0)) (dCons (dC (.int 1)) dNil)))))
def r_l_take : DS :=
  dSeq (dIfS (dTest (dOp uGt (dOp uIx (dVar 0) (dC (.int 2))) (dC (.int 0)))) (dSeq (dAsg (dCB uInt (dCons (dOp uIx (dVar 0) (dC (.int 2))) dNil)) (hName 2)) (dSeq (dAsg (dOp uDiv (dVar 2) (dVar 1)) (hSub (dVar 0) (dC (.int 2)))) (dRet (dOp uMod (dCB uInt (dCons (dVar 2) dNil)) (dVar 1))))) dNext) (dSeq (dAsg (dC (.int 0)) (hName 3)) (dCut (dIfS (dTest (dOp uLt (dOp uIx (dVar 0) (dC (.int 1))) (dCB uLen (dCons (dOp uIx (dVar 0) (dC (.int 0))) dNil)))) (dAsg (dOp uIx (dOp uIx (dVar 0) (dC (.int 0))) (dOp uIx (dVar 0) (dC (.int 1)))) (hName 3)) dNext) (dSeq (dAsg (dOp uAdd (dOp uIx (dVar 0) (dC (.int 1))) (dC (.int 1))) (hSub (dVar 0) (dC (.int 1)))) (dSeq (dIfS (dTest (dOp uGe (dVar 3) (dOp uPow (dC (.int 10)) (dC (.int 18))))) (dSeq (dAsg (dOp uDiv (dVar 3) (dVar 1)) (hSub (dVar 0) (dC (.int 2)))) (dRet (dOp uMod (dCB uInt (dCons (dVar 3) dNil)) (dVar 1)))) dNext) (dSeq (dAsg (dOp uMod (dCB uInt (dCons (dOp uAdd (dOp uAdd (dOp uMul (dOp uIx (dVar 0) (dC (.int 3))) (dC (.int 48271))) (dOp uMul (dVar 3) (dC (.int 69621)))) (dOp uMul (dOp uIx (dVar 0) (dC (.int 1))) (dC (.int 7919)))) dNil)) (dC (.int 2147483647))) (hSub (dVar 0) (dC (.int 3)))) (dRet (dOp uMod (dOp uDiv (dCB uInt (dCons (dOp uIx (dVar 0) (dC (.int 3))) dNil)) (dC (.int 16))) (dVar 1))))))))
def r_l_letters : DS :=
  dSeq (dAsg (dCB uListC (dCons (dC (.str [97, 98, 99, 100, 101, 102, 103, 104, 105, 106, 107, 108, 109, 110, 111, 112, 113, 114, 115, 116, 117, 118, 119, 120, 121, 122])) dNil)) (hName 2)) (dSeq (dAsg (dC (.str [])) (hName 3)) (dSeq (dFor (jRng1 (dCons (dOp uAdd (dC (.int 1)) (dCall g_l_take noX (dCons (dVar 0) (dCons (dVar 1) dNil)))) dNil)) (hName 4) (dAsg (dOp uAdd (dVar 3) (dBm tyL uPop (dVar 2) (dCons (dCall g_l_take noX (dCons (dVar 0) (dCons (dCB uLen (dCons (dVar 2) dNil)) dNil))) dNil))) (hName 3))) (dRet (dBm tyS uJoin (dC (.str [])) (dCons (dCB uSrt (dCons (dVar 3) dNil)) dNil)))))
def r_l_vowels : DS :=
  dRet (dBm tyS uJoin (dC (.str [])) (dCons (dLc (jStr (dVar 1)) (hName 2) dYes (dOp uIx (dLst (dCons (dC (.str [])) (dCons (dVar 2) dNil))) (dCall g_l_take noX (dCons (dVar 0) (dCons (dC (.int 2)) dNil)))) [2]) dNil))
def r_l_word : DS :=
  dSeq (dAsg (dC (.str [])) (hName 3)) (dSeq (dFor (jRng1 (dCons (dCall g_l_take noX (dCons (dVar 0) (dCons (dOp uAdd (dVar 2) (dC (.int 1))) dNil))) dNil)) (hName 4) (dIfS (dAnd (dTest (dOp uNe (dVar 3) (dC (.str [])))) (dTest (dOp uEq (dCall g_l_take noX (dCons (dVar 0) (dCons (dC (.int 4)) dNil))) (dC (.int 0))))) (dAsg (dOp uAdd (dVar 3) (dOp uIx (dVar 3) (dUn uNeg (dC (.int 1))))) (hName 3)) (dAsg (dOp uAdd (dVar 3) (dOp uIx (dVar 1) (dCall g_l_take noX (dCons (dVar 0) (dCons (dCB uLen (dCons (dVar 1) dNil)) dNil))))) (hName 3)))) (dRet (dVar 3)))
end Cl
/-! What the program's defs and the laws' helpers do follows their promises: alphabets, the bag, the laws' drawings. -/
namespace Cl
open PySem PySem.Spec PyProof.Rows L2 He ClX
local macro_rules | `(tactic| walk_at "sz") => `(tactic| (rw [sizeLine_eq]; (try simp only [List.length_append, List.length_cons, List.length_nil, List.length_map, List.length_reverse]); omega))
local macro_rules | `(tactic| walk_at "ds") => `(tactic| repeat (first
  | with_reducible refine k_seq ?_
  | with_reducible refine k_asg ?_
  | with_reducible refine k_var (by with_unfolding_all exact rfl) ?_
  | with_reducible refine k_c ?_
  | with_reducible refine k_op ?_
  | with_reducible refine k_cons ?_
  | with_reducible refine k_nil ?_
  | with_reducible refine k_name ?_
  | with_reducible refine k_ifS ?_
  | with_reducible refine k_test ?_
  | with_reducible refine k_bl ?_
  | with_reducible refine iteT ?_
  | with_reducible refine iteF ?_
  | with_reducible refine k_nf ?_
  | with_reducible refine k_nt ?_
  | with_reducible refine k_ret ?_
  | with_reducible refine k_cb ?_
  | with_reducible refine k_call ?_
  | with_reducible refine k_not ?_
  | with_reducible refine k_and ?_
  | with_reducible refine k_or ?_
  | with_reducible refine k_drop ?_
  | with_reducible refine k_next ?_
  | with_reducible refine k_bm ?_
  | with_reducible refine k_tyS ?_
  | with_reducible refine k_un ?_
  | with_reducible refine k_neg ?_
  | with_reducible refine k_fld ?_
  | with_reducible refine k_meth ?_
  | with_reducible refine k_tru ?_
  | with_reducible refine k_truB ?_
  | with_reducible refine k_truL ?_
  | with_reducible refine k_sl ?_
  | with_reducible refine k_part ?_
  | with_reducible refine k_nopart ?_
  | with_reducible refine k_i ?_
  | with_reducible refine k_s ?_
  | with_reducible refine k_l ?_
  | with_reducible refine k_tu ?_
  | with_reducible refine k_tup ?_
  | with_reducible refine k_lst ?_
  | with_reducible refine k_pu (by with_unfolding_all exact rfl) (by walk_at "sz") ?_
  | with_reducible refine k_lstC ?_
  | with_reducible refine k_lc ?_
  | with_reducible refine k_yes ?_
  | with_reducible refine k_for ?_
  | with_reducible refine k_jstr ?_
  | with_reducible refine k_jlst ?_
  | with_reducible refine k_jtup ?_
  | with_reducible refine k_rng1 ?_
  | with_reducible refine k_if ?_
  | with_reducible refine k_andV ?_
  | with_reducible refine k_orV ?_
  | with_reducible refine k_notV ?_
  | with_reducible refine k_chain ?_
  | with_reducible refine k_raise ?_
  | with_reducible refine k_stf ?_
  | with_reducible refine k_frz ?_
  | with_reducible refine k_frzV _ ?_
  | with_reducible refine k_make ?_
  | with_reducible refine k_try ?_
  | with_reducible refine k_callI ?_
  | with_reducible refine k_callIS ?_
  | with_reducible refine k_xf ?_
  | with_reducible refine k_sub ?_
  | with_reducible refine k_fs ?_
  | with_reducible refine k_js ?_
  | with_reducible refine k_jnil ?_
  | with_reducible refine k_fmt ?_
  | with_reducible refine k_rev ?_
  | with_reducible refine k_lenSet ?_
  | with_reducible refine k_srtSet ?_
  | with_reducible refine k_gcons ?_
  | with_reducible refine k_gnil ?_
  | with_reducible refine k_gtup (by rfl) ?_
  | with_reducible refine k_addI ?_
  | with_reducible refine k_subI ?_
  | with_reducible refine k_lt ?_
  | with_reducible refine k_le ?_
  | with_reducible refine k_gt ?_
  | with_reducible refine k_ge ?_
  | with_reducible refine k_in ?_
  | with_reducible refine k_notin ?_
  | with_reducible refine k_isN ?_
  | with_reducible refine k_isnotN ?_
  | with_reducible refine k_isB ?_
  | with_reducible refine k_isnotB ?_
  | with_reducible refine k_int ?_
  | with_reducible refine k_intB ?_
  | with_reducible refine k_bool ?_
  | with_reducible refine k_neS ?_
  | with_reducible refine k_eqS ?_
  | with_reducible refine k_eq (by with_unfolding_all exact rfl) ?_
  | with_reducible refine k_ne (by with_unfolding_all exact rfl) ?_
  | with_reducible refine k_ixT (by with_unfolding_all exact rfl) ?_
  | with_reducible refine k_ixL (by with_unfolding_all exact rfl) ?_
  | with_reducible refine k_slL ?_
  | with_reducible refine k_lenL ?_
  | with_reducible refine k_lenT ?_
  | with_reducible refine k_listL ?_
  | with_reducible refine k_listT ?_
  | with_reducible refine k_sz (by walk_at "sz") ?_
  | with_reducible refine k_lenS (by walk_at "sz") ?_
  | with_reducible refine k_addS (by walk_at "sz") ?_
  | with_reducible refine k_slS (by walk_at "sz") ?_))
theorem ob_alph {M : Mem} {ls vw : List Nat} : obOf M (.v (alph ls vw)) = some (.Alphabet, [vS ls, vS vw, vS (cons ls vw), vS (45 :: ls)]) := rfl
theorem ref_all_different (ds : List D) (M : Mem) (Q : DQ) (E : DX) (h : g_all_different ds M Q E) : r_all_different { nx := fun _ M' => qExit M Q (.v .non) M', rt := qExit M Q } (startD 1 ds) M := by
  obtain ⟨z, rfl, hz, q⟩ := h
  show r_all_different _ [some (vS z)] M
  unfold r_all_different
  walk_at "ds"
  refine ⟨z, rfl, hz, fun n hn => ?_⟩
  walk_at "ds"
  rw [hn]
  exact x_same q
theorem k_field {M : Mem} {d : D} {k : Cn} {ys : List D} {f : Fd} {y : D} {p : D → Prop} (e : obOf M d = some (k, ys)) (e2 : ys[k.ix f]? = some y) (h : p y) : ∃ k ys y, obOf M d = some (k, ys) ∧ ys[k.ix f]? = some y ∧ p y := ⟨k, ys, y, e, e2, h⟩
theorem ref_Alphabet_is_word (ds : List D) (M : Mem) (Q : DQ) (E : DX) (h : g_Alphabet_is_word ds M Q E) : r_Alphabet_is_word { nx := fun _ M' => qExit M Q (.v .non) M', rt := qExit M Q } (startD 3 ds) M := by
  obtain ⟨ls, vw, z, rfl, q⟩ := h
  show r_Alphabet_is_word _ [some (.v (alph ls vw)), some (vS z), none] M
  unfold r_Alphabet_is_word
  walk_at "ds"
  have key : ∀ (y : List Nat) (v : Option D) (N : DSt → Mem → Prop), (isW ls y = true → ∀ v, N [some (.v (alph ls vw)), some (vS z), v] M) → (isW ls y = false → qExit M Q (vB false) M) →
      dLoop (hName 2) (dIfS (dTest (dOp uNotIn (dVar 2) (dFld (dVar 0) .signs))) (dRet (dC (.bl false))) dNext) { nx := N, rt := qExit M Q } (y.map fun c => vS [c]) [some (.v (alph ls vw)), some (vS z), v] M := by
    intro y
    induction y with
    | nil => exact fun v N h1 h2 => h1 rfl v
    | cons c y ih =>
      intro v N h1 h2
      refine loop_cons ?_
      walk_at "ds"
      refine k_field ob_alph (by with_unfolding_all exact rfl) ?_
      walk_at "ds"
      by_cases hc : c ∈ 45 :: ls
      · rw [decide_eq_true hc]
        refine iteF ?_
        walk_at "ds"
        have e : isW ls (c :: y) = isW ls y := by
          unfold isW
          rw [List.all_cons, decide_eq_true hc, Bool.true_and]
        exact ih _ N (fun h => h1 (by rw [e]; exact h)) fun h => h2 (by rw [e]; exact h)
      · rw [decide_eq_false hc]
        refine iteT ?_
        walk_at "ds"
        refine h2 ?_
        unfold isW
        rw [List.all_cons, decide_eq_false hc, Bool.false_and]
  refine key z _ _ (fun h v => ?_) fun h => x_same (by rw [h] at q; exact q)
  rw [h] at q
  walk_at "ds"
  exact x_same q
theorem k_m {M : Mem} {d : D} {k : Cn} {ys : List D} {sp : DSp} {gg : Cn → Option DSp} {p : DSp → Prop} (e : obOf M d = some (k, ys)) (e2 : gg k = some sp) (h : p sp) : ∃ k ys sp, obOf M d = some (k, ys) ∧ gg k = some sp ∧ p sp := ⟨k, ys, sp, e, e2, h⟩
/-! ### the bag's moves -/
theorem Bg.lt {M : Mem} {b : Nat} (h : Bg M b) : b < M.length := by
  obtain ⟨c, e, _⟩ := h
  exact (List.getElem?_eq_some_iff.mp e).1
theorem Bd.refl {M : Mem} {b : Nat} (h : Bg M b) : Bd b M M := by
  obtain ⟨c, e, hc⟩ := h
  refine ⟨c, hc, ?_⟩
  obtain ⟨h1, h2⟩ := List.getElem?_eq_some_iff.mp e
  rw [← h2, List.set_getElem_self]
theorem Bd.trans {M M1 M2 : Mem} {b : Nat} (h : Bd b M M1) (g : Bd b M1 M2) : Bd b M M2 := by
  obtain ⟨c, hc, rfl⟩ := h
  obtain ⟨d, hd, rfl⟩ := g
  exact ⟨d, hd, by rw [List.set_set]⟩
theorem Bd.len {M M1 : Mem} {b : Nat} (h : Bd b M M1) : M1.length = M.length := by
  obtain ⟨c, hc, rfl⟩ := h
  simp
theorem Bd.bg {M M1 : Mem} {b : Nat} (h : Bd b M M1) (g : Bg M b) : Bg M1 b := by
  obtain ⟨c, hc, rfl⟩ := h
  exact ⟨c, List.getElem?_set_self g.lt, hc⟩
theorem Bd.get {M M1 : Mem} {b j : Nat} (h : Bd b M M1) (ne : j ≠ b) : M1[j]? = M[j]? := by
  obtain ⟨c, hc, rfl⟩ := h
  rw [List.getElem?_set_ne (Ne.symm ne)]
theorem Bd.app {M L M' : Mem} {b : Nat} (hb : b < M.length) (h : Bd b (M ++ L) M') : ∃ M1, M' = M1 ++ L ∧ Bd b M M1 := by
  obtain ⟨c, hc, rfl⟩ := h
  exact ⟨M.set b (some c), by rw [List.set_append_left _ _ hb], c, hc, rfl⟩
theorem Bg.app {M L : Mem} {b : Nat} (h : Bg M b) : Bg (M ++ L) b := by
  obtain ⟨c, e, hc⟩ := h
  exact ⟨c, by rw [List.getElem?_append_left (List.getElem?_eq_some_iff.mp e).1]; exact e, hc⟩
theorem x_bd {M M' : Mem} {Q : DQ} {b : Nat} {x : PV} (h : Bd b M M') (q : Q (.v x) M') : qExit M Q (.v x) M' := by
  obtain ⟨c, hc, rfl⟩ := h
  exact x_set hc.low q
theorem x_bd_app {M M' L : Mem} {Q : DQ} {b : Nat} {x : PV} (h : Bd b M M') (q : Q (.v x) M') : qExit M Q (.v x) (M' ++ L) := by
  have hl := h.len
  obtain ⟨c, hc, rfl⟩ := h
  refine ⟨(fun _ e => by cases e), (Exit.set (i := b) hc.low).trans hl (Exit.app _ L), ?_⟩
  rw [← hl, List.take_left' rfl]
  exact q
/-- the call of the law's draw -/
theorem c_take {M : Mem} {Q : DQ} {X : DX} {b : Nat} {n : Int} (hb : Bg M b) (h0 : 0 < n) (h1 : n < 1152921504606846976) (h : ∀ (r : Nat) M', (r : Int) < n → Bd b M M' → Bg M' b → Q (vI r) M') : g_l_take [.cell b, vI n] M Q X :=
  ⟨b, n, rfl, hb, h0, h1, fun r M' hr d => h r M' hr d (d.bg hb)⟩
theorem ref_l_bag (ds : List D) (M : Mem) (Q : DQ) (E : DX) (h : g_l_bag ds M Q E) : r_l_bag { nx := fun _ M' => Q (.v .non) M', rt := Q } (startD 1 ds) M := by
  obtain ⟨ns, rfl, q⟩ := h
  show r_l_bag _ [some (.v (.scr ns))] M
  unfold r_l_bag
  walk_at "ds"
  refine k_slX ?_
  walk_at "ds"
  exact q _ ⟨_, 0, 0, 1, rfl, by decide⟩
theorem ref_l_take (ds : List D) (M : Mem) (Q : DQ) (E : DX) (h : g_l_take ds M Q E) : r_l_take { nx := fun _ M' => qExit M Q (.v .non) M', rt := qExit M Q } (startD 4 ds) M := by
  obtain ⟨b, n, rfl, ⟨c, hb, ns, pos, rest, seed, rfl, h0⟩, n0, n1, k⟩ := h
  show r_l_take _ [some (.cell b), some (vI n), none, none] M
  unfold r_l_take
  have hlt := (List.getElem?_eq_some_iff.mp hb).1
  have fin : ∀ (x pos' rest' seed' : Int), 0 ≤ pos' → qExit M Q (vI (x % n)) (M.set b (some (.lst [vL (ns.map PV.int), vI pos', vI rest', vI seed']))) := fun x pos' rest' seed' hp => by
    obtain ⟨r, hr⟩ : ∃ r : Nat, x % n = (r : Int) := ⟨(x % n).toNat, by have := Int.emod_nonneg x (b := n) (by omega); omega⟩
    have hB : Bd b M (M.set b (some (.lst [vL (ns.map PV.int), vI pos', vI rest', vI seed']))) := ⟨_, ⟨ns, pos', rest', seed', rfl, hp⟩, rfl⟩
    rw [hr]
    exact x_bd hB (k r _ (by rw [← hr]; exact Int.emod_lt_of_pos _ n0) hB)
  have gs : ∀ x : Cell, (M.set b (some x))[b]? = some (some x) := fun x => List.getElem?_set_self hlt
  walk_at "ds"
  refine k_ixC hb rfl ?_
  walk_at "ds"
  refine ite2 (fun _ => ?_) (fun _ => ?_)
  · walk_at "ds"
    refine k_ixC hb rfl ?_
    walk_at "ds"
    refine ⟨_, _, rfl, rfl, wide_div (b := 60) n0 (by omega) (by decide) (by decide), ?_⟩
    walk_at "ds"
    refine ⟨b, _, _, 2, rfl, rfl, hb, rfl, ?_⟩
    walk_at "ds"
    exact ⟨_, _, rfl, rfl, n0, fin _ _ _ _ h0⟩
  · walk_at "ds"
    refine k_nocut ?_
    walk_at "ds"
    refine k_ixC hb rfl ?_
    walk_at "ds"
    refine k_ixC hb rfl ?_
    walk_at "ds"
    have tail : ∀ cell : Int, dSeq (dAsg (dOp uAdd (dOp uIx (dVar 0) (dC (.int 1))) (dC (.int 1))) (hSub (dVar 0) (dC (.int 1)))) (dSeq (dIfS (dTest (dOp uGe (dVar 3) (dOp uPow (dC (.int 10)) (dC (.int 18)))))
        (dSeq (dAsg (dOp uDiv (dVar 3) (dVar 1)) (hSub (dVar 0) (dC (.int 2)))) (dRet (dOp uMod (dCB uInt (dCons (dVar 3) dNil)) (dVar 1)))) dNext)
        (dSeq (dAsg (dOp uMod (dCB uInt (dCons (dOp uAdd (dOp uAdd (dOp uMul (dOp uIx (dVar 0) (dC (.int 3))) (dC (.int 48271))) (dOp uMul (dVar 3) (dC (.int 69621)))) (dOp uMul (dOp uIx (dVar 0) (dC (.int 1))) (dC (.int 7919)))) dNil)) (dC (.int 2147483647))) (hSub (dVar 0) (dC (.int 3))))
        (dRet (dOp uMod (dOp uDiv (dCB uInt (dCons (dOp uIx (dVar 0) (dC (.int 3))) dNil)) (dC (.int 16))) (dVar 1))))) { nx := fun _ M' => qExit M Q (.v .non) M', rt := qExit M Q } [some (.cell b), some (vI n), none, some (vI cell)] M := by
      intro cell
      walk_at "ds"
      refine k_ixC hb rfl ?_
      walk_at "ds"
      refine ⟨b, _, _, 1, rfl, rfl, hb, rfl, ?_⟩
      walk_at "ds"
      refine ⟨_, _, rfl, rfl, ⟨by decide, by decide, by decide⟩, ?_⟩
      walk_at "ds"
      refine ite2 (fun _ => ?_) (fun _ => ?_)
      · walk_at "ds"
        refine ⟨_, _, rfl, rfl, wide_div (b := 60) n0 (by omega) (by decide) (by decide), ?_⟩
        walk_at "ds"
        refine ⟨b, _, _, 2, rfl, rfl, gs _, rfl, ?_⟩
        walk_at "ds"
        refine ⟨_, _, rfl, rfl, n0, ?_⟩
        rw [List.set_set]
        exact fin _ _ _ _ (by omega)
      · walk_at "ds"
        refine k_ixC (gs _) rfl ?_
        walk_at "ds"
        refine Or.inl ⟨_, _, rfl, rfl, Or.inr ⟨by decide, by decide⟩, ?_⟩
        walk_at "ds"
        refine Or.inl ⟨_, _, rfl, rfl, Or.inr ⟨by decide, by decide⟩, ?_⟩
        walk_at "ds"
        refine k_ixC (gs _) rfl ?_
        walk_at "ds"
        refine Or.inl ⟨_, _, rfl, rfl, Or.inr ⟨by decide, by decide⟩, ?_⟩
        walk_at "ds"
        refine ⟨_, _, rfl, rfl, by decide, ?_⟩
        walk_at "ds"
        refine ⟨b, _, _, 3, rfl, rfl, gs _, rfl, ?_⟩
        walk_at "ds"
        rw [List.set_set]
        refine k_ixC (gs _) rfl ?_
        walk_at "ds"
        refine ⟨_, _, rfl, rfl, wide_div (b := 5) (by decide) (by decide) (by decide) (by decide), ?_⟩
        walk_at "ds"
        refine ⟨_, _, rfl, rfl, n0, fin _ _ _ _ (by omega)⟩
    refine ite2 (fun hlt' => ?_) (fun _ => ?_)
    · walk_at "ds"
      refine k_ixC hb rfl ?_
      walk_at "ds"
      refine k_ixC hb rfl ?_
      have hl := of_decide_eq_true hlt'
      rw [List.length_map] at hl
      obtain ⟨j, rfl⟩ : ∃ j : Nat, pos = j := ⟨pos.toNat, by omega⟩
      have hj : j < ns.length := by omega
      refine k_ixL (y := .int ns[j]) (atI_nat (by rw [List.getElem?_map, List.getElem?_eq_getElem hj]; rfl)) ?_
      exact tail ns[j]
    · exact tail 0
/-! ### comprehensions over signs -/
theorem comp_sgn {i : Nat} {tt : DT} {ds : DSt} {M : Mem} {P : List PV → Mem → Prop} {z : List Nat} (keep : Nat → Bool) (hi : i < ds.length) (hz : z.length ≤ 1000000) (ht : ∀ (c : Nat) (QB : Bool → Mem → Prop), c ∈ z → QB (keep c) M → tt (ds.set i (some (vS [c]))) M QB) (h : P (sgn (z.filter keep)) M) :
    dComp (hName i) tt (dVar i) ds P (z.map fun c => vS [c]) [] M := by
  have key : ∀ (y : List Nat) (acc : List PV), (∀ c ∈ y, c ∈ z) → acc.length + y.length ≤ 1000000 → P (acc ++ sgn (y.filter keep)) M → dComp (hName i) tt (dVar i) ds P (y.map fun c => vS [c]) acc M := by
    intro y
    induction y with
    | nil => exact fun acc _ _ h => by rw [List.filter_nil, sgn, List.map_nil, List.append_nil] at h; exact h
    | cons c y ih =>
      intro acc hs hl h
      refine ht c _ (hs c List.mem_cons_self) ?_
      rw [List.filter_cons] at h
      rw [List.length_cons] at hl
      cases hk : keep c with
      | true =>
        rw [hk, if_pos rfl] at h
        refine iteT ⟨_, List.getElem?_set_self hi, .str [c], rfl, by rw [sizeLine_eq]; omega, ih _ (fun d m => hs d (List.mem_cons_of_mem _ m)) (by rw [List.length_append]; simp only [List.length_cons, List.length_nil]; omega) ?_⟩
        rw [List.append_assoc]
        exact h
      | false =>
        rw [hk, if_neg (by decide)] at h
        exact iteF (ih _ (fun d m => hs d (List.mem_cons_of_mem _ m)) (by omega) h)
  exact key z [] (fun _ m => m) (by simp only [List.length_nil]; omega) h
/-- [['', sign][take(bag, 2)] for sign in z] -/
theorem comp_draw {i b : Nat} {ds : DSt} {M : Mem} {P : List PV → Mem → Prop} {z : List Nat} (hi : i < ds.length) (h0 : ds[0]? = some (some (.cell b))) (hi0 : i ≠ 0) (hb : Bg M b) (hz : z.length ≤ 1000000)
    (h : ∀ (ys : List (List Nat)) M', ys.flatten.Sublist z → (ys.map List.length).sum ≤ z.length → Bd b M M' → P (ys.map PV.str) M') :
    dComp (hName i) dYes (dOp uIx (dLst (dCons (dC (.str [])) (dCons (dVar i) dNil))) (dCall g_l_take noX (dCons (dVar 0) (dCons (dC (.int 2)) dNil)))) ds P (z.map fun c => vS [c]) [] M := by
  have key : ∀ (y : List Nat) (acc : List (List Nat)) (x : List Nat) (M1 : Mem), acc.flatten.Sublist x → (acc.map List.length).sum ≤ x.length → acc.length + y.length ≤ 1000000 → x ++ y = z → Bd b M M1 → dComp (hName i) dYes (dOp uIx (dLst (dCons (dC (.str [])) (dCons (dVar i) dNil))) (dCall g_l_take noX (dCons (dVar 0) (dCons (dC (.int 2)) dNil)))) ds P (y.map fun c => vS [c]) (acc.map PV.str) M1 := by
    intro y
    induction y with
    | nil =>
      intro acc x M1 hs hl _ e d
      rw [List.append_nil] at e
      subst e
      exact h acc M1 hs hl d
    | cons c y ih =>
      intro acc x M1 hs hl hn e d
      rw [List.length_cons] at hn
      show hName i (vS [c]) ds M1 _
      walk_at "ds"
      refine k_var (d := vS [c]) (List.getElem?_set_self hi) ?_
      walk_at "ds"
      refine k_var (d := .cell b) (by rw [List.getElem?_set_ne hi0]; exact h0) ?_
      walk_at "ds"
      refine c_take (d.bg hb) (by decide) (by decide) fun r M2 hr d2 hb2 => ?_
      have fin : ∀ w : List Nat, w.Sublist [c] → ∃ z, D.v (.str w) = .v z ∧ (acc.map PV.str).length < sizeLine ∧ dComp (hName i) dYes (dOp uIx (dLst (dCons (dC (.str [])) (dCons (dVar i) dNil))) (dCall g_l_take noX (dCons (dVar 0) (dCons (dC (.int 2)) dNil)))) ds P (y.map fun c => vS [c]) (acc.map PV.str ++ [z]) M2 := fun w hw => by
        refine ⟨.str w, rfl, by rw [List.length_map, sizeLine_eq]; omega, ?_⟩
        have e2 : acc.map PV.str ++ [PV.str w] = (acc ++ [w]).map PV.str := by rw [List.map_append]; rfl
        rw [e2]
        refine ih (acc ++ [w]) (x ++ [c]) M2 ?_ ?_ (by rw [List.length_append]; simp only [List.length_cons, List.length_nil]; omega) (by rw [List.append_assoc]; exact e) (d.trans d2)
        · rw [List.flatten_append]
          refine hs.append ?_
          simpa using hw
        · have := hw.length_le
          rw [List.map_append, List.sum_append, List.length_append]
          simp only [List.map_cons, List.map_nil, List.sum_cons, List.sum_nil, List.length_cons, List.length_nil] at this ⊢
          omega
      rcases (show r = 0 ∨ r = 1 by omega) with rfl | rfl
      · exact k_ixL rfl (fin [] (List.nil_sublist _))
      · exact k_ixL rfl (fin [c] (List.Sublist.refl _))
  exact key z [] [] M (List.Sublist.refl _) (Nat.le_refl _) (by simp only [List.length_nil]; omega) rfl (Bd.refl hb)
theorem jn {M : Mem} {Q : DQ} {ys : List (List Nat)} (hl : (ys.map List.length).sum ≤ 1000000) (h : Q (vS ys.flatten) M) : uJoin (vS []) [vL (ys.map PV.str)] M Q :=
  k_joinL rfl (by simp only [List.length_nil, Nat.mul_zero]; omega) (by rw [glue_nil]; exact h)
theorem ref_l_vowels (ds : List D) (M : Mem) (Q : DQ) (E : DX) (h : g_l_vowels ds M Q E) : r_l_vowels { nx := fun _ M' => qExit M Q (.v .non) M', rt := qExit M Q } (startD 3 ds) M := by
  obtain ⟨b, ls, rfl, hb, hl, k⟩ := h
  show r_l_vowels _ [some (.cell b), some (vS ls), none] M
  unfold r_l_vowels
  walk_at "ds"
  refine comp_draw (by show 2 < 3; decide) rfl (by decide) hb (by omega) fun ys M' hs hn d => ?_
  exact jn (by omega) (x_bd d (k _ M' hs d))
theorem fil_noneP {ls z : List Nat} (h : ∀ c ∈ ls, c ∈ z) : (sgn (ls.filter fun c => !decide (c ∈ z))).isEmpty = true := by
  have : (ls.filter fun c => !decide (c ∈ z)) = [] := List.filter_eq_nil_iff.mpr fun c hc => by simp [h c hc]
  rw [this]
  rfl
theorem fil_someP {ls z : List Nat} (h : ¬ ∀ c ∈ ls, c ∈ z) : (sgn (ls.filter fun c => !decide (c ∈ z))).isEmpty = false := by
  cases q : ls.filter fun c => !decide (c ∈ z) with
  | nil =>
    refine absurd (fun c hc => ?_) h
    have := List.filter_eq_nil_iff.mp q c hc
    simpa using this
  | cons a t => rfl
theorem k_put {M : Mem} {n : Nat} {k : Cn} {ys : List D} {f : Fd} {y : D} {P : Mem → Prop} (e : M[n]? = some (some (.obj k ys))) (hi : k.ix f = ys.length) (hf : k.ix f < k.flds.length) (h : P (M.set n (some (.obj k (ys ++ [y]))))) :
    ∃ i k' ys', D.cell n = .cell i ∧ M[i]? = some (some (.obj k' ys')) ∧ k'.ix f ≤ ys'.length ∧ k'.ix f < k'.flds.length ∧ P (M.set i (some (.obj k' (setF ys' (k'.ix f) y)))) := by
  refine ⟨n, k, ys, rfl, e, Nat.le_of_eq hi, hf, ?_⟩
  unfold setF
  rw [if_neg (by omega)]
  exact h
theorem ref_Alphabet_init (ds : List D) (M : Mem) (Q : DQ) (E : DX) (h : g_Alphabet_init ds M Q E) : r_Alphabet_init E { nx := fun _ M' => Q (.v .non) M', rt := Q } (startD 5 ds) M := by
  obtain ⟨n, ls, vw, rfl, hM, l1, l2, kL, kV, kQ⟩ := h
  show r_Alphabet_init E _ [some (.cell n), some (vS ls), some (vS vw), none, none] M
  unfold r_Alphabet_init
  have hn := (List.getElem?_eq_some_iff.mp hM).1
  have raise : ∀ x : List Nat, E ⟨.BadAlphabet, [.str x]⟩ M → ∃ ps, pures [vS x] = some ps ∧ ps.length = Cn.BadAlphabet.flds.length ∧ E ⟨.BadAlphabet, ps⟩ M := fun x h => ⟨[.str x], rfl, rfl, h⟩
  have gs : ∀ x : Cell, (M.set n (some x))[n]? = some (some x) := fun x => List.getElem?_set_self hn
  walk_at "ds"
  refine comp_sgn (fun c => !decide (c ∈ small)) (by show 4 < 5; decide) (by omega) (fun c QB hc q => ?_) ?_
  · walk_at "ds"
    exact q
  walk_at "ds"
  by_cases a1 : ∀ c ∈ ls, c ∈ small
  case neg =>
    rw [fil_someP a1]
    refine iteT ?_
    walk_at "ds"
    exact raise _ (kL fun h => a1 h.1)
  rw [fil_noneP a1]
  refine iteF ?_
  walk_at "ds"
  by_cases a2 : (1 : Int) ≤ ls.length
  case neg =>
    rw [decide_eq_false a2]
    refine iteF ?_
    walk_at "ds"
    exact raise _ (kL fun h => a2 (by have := h.2.1; omega))
  rw [decide_eq_true a2]
  refine iteT ?_
  walk_at "ds"
  by_cases a3 : (ls.length : Int) ≤ 8
  case neg =>
    rw [decide_eq_false a3]
    refine iteT ?_
    walk_at "ds"
    exact raise _ (kL fun h => a3 (by have := h.2.2.1; omega))
  rw [decide_eq_true a3]
  refine iteF ?_
  walk_at "ds"
  refine ⟨ls, rfl, by omega, ?_⟩
  walk_at "ds"
  by_cases a4 : ls.Nodup
  case neg =>
    rw [decide_eq_false a4]
    refine iteT ?_
    walk_at "ds"
    exact raise _ (kL fun h => a4 h.2.2.2)
  rw [decide_eq_true a4]
  refine iteF ?_
  have okl : okL ls := ⟨a1, by omega, by omega, a4⟩
  walk_at "ds"
  refine comp_sgn (fun c => !decide (c ∈ ls)) (by show 4 < 5; decide) (by omega) (fun c QB hc q => ?_) ?_
  · walk_at "ds"
    exact q
  walk_at "ds"
  by_cases b1 : ∀ c ∈ vw, c ∈ ls
  case neg =>
    rw [fil_someP b1]
    refine iteT ?_
    walk_at "ds"
    exact raise _ (kV okl fun h => b1 h.1)
  rw [fil_noneP b1]
  refine iteF ?_
  walk_at "ds"
  refine ⟨vw, rfl, by omega, ?_⟩
  walk_at "ds"
  by_cases b2 : vw.Nodup
  case neg =>
    rw [decide_eq_false b2]
    refine iteT ?_
    walk_at "ds"
    exact raise _ (kV okl fun h => b2 h.2)
  rw [decide_eq_true b2]
  refine iteF ?_
  walk_at "ds"
  refine k_srt (by omega) ?_
  walk_at "ds"
  refine k_joinG (by rw [srt_len]; omega) ?_
  walk_at "ds"
  refine k_put hM (by with_unfolding_all exact rfl) (by decide) ?_
  walk_at "ds"
  refine k_srt (by omega) ?_
  walk_at "ds"
  refine k_joinG (by rw [srt_len]; omega) ?_
  walk_at "ds"
  refine k_put (gs _) (by with_unfolding_all exact rfl) (by decide) ?_
  rw [List.set_set]
  walk_at "ds"
  refine k_srt (by omega) ?_
  walk_at "ds"
  have e : (sgn (srt ls)).map D.v = (srt ls).map fun c => vS [c] := by rw [List.map_map]; rfl
  rw [e]
  refine comp_sgn (fun c => !decide (c ∈ vw)) (by show 4 < 5; decide) (by rw [srt_len]; omega) (fun c QB hc q => ?_) ?_
  · walk_at "ds"
    exact q
  walk_at "ds"
  refine k_joinG (z := cons (srt ls) vw) (by have := cons_len (srt ls) vw; rw [srt_len] at this; omega) ?_
  walk_at "ds"
  refine k_put (gs _) (by with_unfolding_all exact rfl) (by decide) ?_
  rw [List.set_set]
  walk_at "ds"
  refine k_field (k := .Alphabet) (ys := [vS (srt ls), vS (srt vw), vS (cons (srt ls) vw)]) (by show (match (M.set n _)[n]? with | some (some (Cell.obj c ds)) => some (c, ds) | _ => none) = _; rw [gs]; rfl) (by with_unfolding_all exact rfl) ?_
  refine k_addS (by rw [srt_len]; walk_at "sz") ?_
  walk_at "ds"
  refine k_put (gs _) (by with_unfolding_all exact rfl) (by decide) ?_
  rw [List.set_set]
  exact kQ okl ⟨b1, b2⟩
end Cl
/-! What the program's defs and the laws' helpers do follows their promises: the laws' drawings. -/
namespace Cl
open PySem PySem.Spec PyProof.Rows L2 He ClX
local macro_rules | `(tactic| walk_at "sz") => `(tactic| (rw [sizeLine_eq]; (try simp only [List.length_append, List.length_cons, List.length_nil, List.length_map, List.length_reverse]); omega))
local macro_rules | `(tactic| walk_at "ds") => `(tactic| repeat (first
  | with_reducible refine k_seq ?_
  | with_reducible refine k_asg ?_
  | with_reducible refine k_var (by with_unfolding_all exact rfl) ?_
  | with_reducible refine k_c ?_
  | with_reducible refine k_op ?_
  | with_reducible refine k_cons ?_
  | with_reducible refine k_nil ?_
  | with_reducible refine k_name ?_
  | with_reducible refine k_ifS ?_
  | with_reducible refine k_test ?_
  | with_reducible refine k_bl ?_
  | with_reducible refine iteT ?_
  | with_reducible refine iteF ?_
  | with_reducible refine k_nf ?_
  | with_reducible refine k_nt ?_
  | with_reducible refine k_ret ?_
  | with_reducible refine k_cb ?_
  | with_reducible refine k_call ?_
  | with_reducible refine k_not ?_
  | with_reducible refine k_and ?_
  | with_reducible refine k_or ?_
  | with_reducible refine k_drop ?_
  | with_reducible refine k_next ?_
  | with_reducible refine k_bm ?_
  | with_reducible refine k_tyS ?_
  | with_reducible refine k_un ?_
  | with_reducible refine k_neg ?_
  | with_reducible refine k_fld ?_
  | with_reducible refine k_meth ?_
  | with_reducible refine k_tru ?_
  | with_reducible refine k_truB ?_
  | with_reducible refine k_truL ?_
  | with_reducible refine k_sl ?_
  | with_reducible refine k_part ?_
  | with_reducible refine k_nopart ?_
  | with_reducible refine k_i ?_
  | with_reducible refine k_s ?_
  | with_reducible refine k_l ?_
  | with_reducible refine k_tu ?_
  | with_reducible refine k_tup ?_
  | with_reducible refine k_lst ?_
  | with_reducible refine k_pu (by with_unfolding_all exact rfl) (by walk_at "sz") ?_
  | with_reducible refine k_lstC ?_
  | with_reducible refine k_lc ?_
  | with_reducible refine k_yes ?_
  | with_reducible refine k_for ?_
  | with_reducible refine k_jstr ?_
  | with_reducible refine k_jlst ?_
  | with_reducible refine k_jtup ?_
  | with_reducible refine k_rng1 ?_
  | with_reducible refine k_if ?_
  | with_reducible refine k_andV ?_
  | with_reducible refine k_orV ?_
  | with_reducible refine k_notV ?_
  | with_reducible refine k_chain ?_
  | with_reducible refine k_raise ?_
  | with_reducible refine k_stf ?_
  | with_reducible refine k_frz ?_
  | with_reducible refine k_frzV _ ?_
  | with_reducible refine k_make ?_
  | with_reducible refine k_try ?_
  | with_reducible refine k_callI ?_
  | with_reducible refine k_callIS ?_
  | with_reducible refine k_xf ?_
  | with_reducible refine k_sub ?_
  | with_reducible refine k_fs ?_
  | with_reducible refine k_js ?_
  | with_reducible refine k_jnil ?_
  | with_reducible refine k_fmt ?_
  | with_reducible refine k_rev ?_
  | with_reducible refine k_lenSet ?_
  | with_reducible refine k_srtSet ?_
  | with_reducible refine k_gcons ?_
  | with_reducible refine k_gnil ?_
  | with_reducible refine k_gtup (by rfl) ?_
  | with_reducible refine k_addI ?_
  | with_reducible refine k_subI ?_
  | with_reducible refine k_lt ?_
  | with_reducible refine k_le ?_
  | with_reducible refine k_gt ?_
  | with_reducible refine k_ge ?_
  | with_reducible refine k_in ?_
  | with_reducible refine k_notin ?_
  | with_reducible refine k_isN ?_
  | with_reducible refine k_isnotN ?_
  | with_reducible refine k_isB ?_
  | with_reducible refine k_isnotB ?_
  | with_reducible refine k_int ?_
  | with_reducible refine k_intB ?_
  | with_reducible refine k_bool ?_
  | with_reducible refine k_neS ?_
  | with_reducible refine k_eqS ?_
  | with_reducible refine k_eq (by with_unfolding_all exact rfl) ?_
  | with_reducible refine k_ne (by with_unfolding_all exact rfl) ?_
  | with_reducible refine k_ixT (by with_unfolding_all exact rfl) ?_
  | with_reducible refine k_ixL (by with_unfolding_all exact rfl) ?_
  | with_reducible refine k_slL ?_
  | with_reducible refine k_lenL ?_
  | with_reducible refine k_lenT ?_
  | with_reducible refine k_listL ?_
  | with_reducible refine k_listT ?_
  | with_reducible refine k_sz (by walk_at "sz") ?_
  | with_reducible refine k_lenS (by walk_at "sz") ?_
  | with_reducible refine k_addS (by walk_at "sz") ?_
  | with_reducible refine k_slS (by walk_at "sz") ?_))
theorem get_lastL {M1 : Mem} {n : Nat} {x : Option Cell} (hl : M1.length = n) : (M1 ++ [x])[n]? = some x := by
  subst hl
  exact List.getElem?_concat_length ..
theorem ls_lastL {M1 : Mem} {n : Nat} {ys : List D} (hl : M1.length = n) : lsOf (M1 ++ [some (.lst ys)]) (.cell n) = some ys := by
  subst hl
  exact ls_last
theorem set_lastL {α : Type} {M1 : List α} {n : Nat} {x y : α} (hl : M1.length = n) : (M1 ++ [x]).set n y = M1 ++ [y] := by
  subst hl
  exact set_last
theorem ref_l_letters (ds : List D) (M : Mem) (Q : DQ) (E : DX) (h : g_l_letters ds M Q E) : r_l_letters { nx := fun _ M' => qExit M Q (.v .non) M', rt := qExit M Q } (startD 5 ds) M := by
  obtain ⟨b, top, rfl, hb, t1, t8, k⟩ := h
  show r_l_letters _ [some (.cell b), some (vI top), none, none, none] M
  unfold r_l_letters
  walk_at "ds"
  refine k_listCS (z := small) (by show 26 ≤ sizeLine; decide) ?_
  walk_at "ds"
  refine c_take hb.app (by omega) (by omega) fun r M' hr d _ => ?_
  obtain ⟨M1, rfl, d1⟩ := d.app hb.lt
  walk_at "ds"
  rw [show (1 + (r : Int)) = ((1 + r : Nat) : Int) by omega]
  refine ⟨_, rfl, by omega, by omega, ?_⟩
  rw [Int.toNat_natCast]
  refine loop_inv (fun j ds M2 => ∃ (rest got : List Nat) (v4 : Option D) (M1 : Mem), ds = [some (.cell b), some (vI top), some (.cell M.length), some (vS got), v4] ∧ M2 = M1 ++ [some (.lst ((sgn rest).map D.v))] ∧ Bd b M M1 ∧ (got ++ rest).Perm small ∧ got.length = j)
    ⟨small, [], none, M1, rfl, rfl, d1, List.Perm.refl _, rfl⟩ ?_ ?_
  · rintro j x ds M2 N hx ⟨rest, got, v4, M1, rfl, rfl, d1, pm, hg⟩ hN
    have hj : j < 1 + r := by
      have := (List.getElem?_eq_some_iff.mp hx).1
      simpa using this
    have hlen : got.length + rest.length = 26 := by
      have := pm.length_eq
      rw [List.length_append] at this
      exact this
    have hl := d1.len
    walk_at "ds"
    refine k_tyL (ls_lastL hl) ?_
    walk_at "ds"
    refine k_lenC (get_lastL hl) ?_
    walk_at "ds"
    have hb1 := d1.bg hb
    refine c_take hb1.app (by simp; omega) (by simp; omega) fun i M' hi d _ => ?_
    obtain ⟨M3, rfl, d3⟩ := d.app hb1.lt
    have hi' : i < rest.length := by simp at hi; omega
    have hl3 := (d1.trans d3).len
    refine ⟨M.length, _, i, vS [rest[i]], rfl, rfl, get_lastL hl3, by omega, by simp; omega, by simp; rw [sizeLine_eq]; omega, by simp [hi'], ?_⟩
    rw [set_lastL hl3]
    walk_at "ds"
    refine hN _ _ ⟨rest.eraseIdx i, got ++ [rest[i]], _, M3, rfl, ?_, d1.trans d3, ?_, by rw [List.length_append, hg]; rfl⟩
    · rw [show ((i : Int)).toNat = i from rfl, erase_map, sgn, erase_map]
    · have e := erase_perm rest i rest[i] (List.getElem?_eq_getElem hi')
      have : ((got ++ [rest[i]]) ++ rest.eraseIdx i) = got ++ (rest[i] :: rest.eraseIdx i) := by rw [List.append_assoc]; rfl
      rw [this]
      exact (e.append_left got).trans pm
  · rintro ds M2 ⟨rest, got, v4, M1, rfl, rfl, d1, pm, hg⟩
    have hgl : got.length = 1 + r := by simpa using hg
    have nd : got.Nodup := by
      have : (got ++ rest).Nodup := pm.nodup_iff.mpr (by decide)
      exact (List.nodup_append.mp this).1
    walk_at "ds"
    refine k_srt (by omega) ?_
    walk_at "ds"
    refine k_joinG (by rw [srt_len]; omega) ?_
    refine x_bd_app d1 (k (srt got) M1 ⟨fun c hc => pm.mem_iff.mp (List.mem_append_left _ (mem_srt.mp hc)), by rw [srt_len]; omega, by rw [srt_len]; omega, nd_of_lt (srt_lt nd)⟩ (srt_lt nd) (by rw [srt_len]; omega) d1)
theorem ref_l_word (ds : List D) (M : Mem) (Q : DQ) (E : DX) (h : g_l_word ds M Q E) : r_l_word { nx := fun _ M' => qExit M Q (.v .non) M', rt := qExit M Q } (startD 5 ds) M := by
  obtain ⟨b, sg, top, rfl, hb, g1, g2, ht, k⟩ := h
  show r_l_word _ [some (.cell b), some (vS sg), some (vI top), none, none] M
  unfold r_l_word
  walk_at "ds"
  refine c_take hb (by omega) (by omega) fun r M1 hr d1 hb1 => ?_
  walk_at "ds"
  refine ⟨_, rfl, by omega, by omega, ?_⟩
  rw [Int.toNat_natCast]
  refine loop_inv (fun j ds M2 => ∃ (wd : List Nat) (v4 : Option D), ds = [some (.cell b), some (vS sg), some (vI top), some (vS wd), v4] ∧ wd.length = j ∧ (∀ c ∈ wd, c ∈ sg) ∧ Bd b M M2)
    ⟨[], none, rfl, rfl, (fun _ h => nomatch h), d1⟩ ?_ ?_
  · rintro j x ds M2 N hx ⟨wd, v4, rfl, wl, wm, bs⟩ hN
    have hj : j < r := by
      have := (List.getElem?_eq_some_iff.mp hx).1
      simpa using this
    have els : ∀ (M3 : Mem) (x4 : D) (E : DEnds), Bd b M M3 → E.nx = N → dAsg (dOp uAdd (dVar 3) (dOp uIx (dVar 1) (dCall g_l_take noX (dCons (dVar 0) (dCons (dCB uLen (dCons (dVar 1) dNil)) dNil))))) (hName 3) E [some (.cell b), some (vS sg), some (vI top), some (vS wd), some x4] M3 := by
      intro M3 x4 E b3 hE
      walk_at "ds"
      refine c_take (b3.bg hb) (by omega) (by omega) fun i M4 hi d4 _ => ?_
      have hi : i < sg.length := by omega
      refine k_ixS (by walk_at "sz") (at_ofN (j := i) rfl (List.getElem?_eq_getElem hi)) ?_
      walk_at "ds"
      rw [hE]
      refine hN _ _ ⟨_, _, rfl, by rw [List.length_append, wl]; rfl, fun c hc => ?_, b3.trans d4⟩
      rcases List.mem_append.mp hc with hc | hc
      · exact wm c hc
      · rw [List.mem_singleton.mp hc]
        exact List.getElem_mem hi
    walk_at "ds"
    by_cases hne : wd = []
    · rw [decide_eq_true hne]
      exact k_nt (iteF (els _ _ _ bs rfl))
    · rw [decide_eq_false hne]
      have hpos := List.length_pos_iff.mpr hne
      walk_at "ds"
      refine c_take (bs.bg hb) (by decide) (by decide) fun i M3 hi d3 _ => ?_
      walk_at "ds"
      refine ite2 (fun h => ?_) (fun h => ?_)
      · obtain ⟨c, hc⟩ := atI_some (z := wd) (i := -1) (by omega) (by omega)
        walk_at "ds"
        refine k_ixS (by walk_at "sz") hc ?_
        walk_at "ds"
        refine hN _ _ ⟨_, _, rfl, by rw [List.length_append, wl]; rfl, fun d hd => ?_, bs.trans d3⟩
        rcases List.mem_append.mp hd with hd | hd
        · exact wm d hd
        · rw [List.mem_singleton.mp hd]
          obtain ⟨_, _, e, _⟩ := atI_get hc
          exact wm c (List.mem_of_getElem? e)
      · exact els _ _ _ (bs.trans d3) rfl
  · rintro ds M2 ⟨wd, v4, rfl, wl, wm, bs⟩
    have wl : wd.length = r := by simpa using wl
    walk_at "ds"
    exact x_bd bs (k _ _ wm (by omega) bs)
end Cl
/-! What the program's defs and the laws' helpers do follows their promises: stages. -/
namespace Cl
open PySem PySem.Spec PyProof.Rows L2 He ClX
local macro_rules | `(tactic| walk_at "sz") => `(tactic| (rw [sizeLine_eq]; (try simp only [List.length_append, List.length_cons, List.length_nil, List.length_map, List.length_reverse]); omega))
local macro_rules | `(tactic| walk_at "ds") => `(tactic| repeat (first
  | with_reducible refine k_seq ?_
  | with_reducible refine k_asg ?_
  | with_reducible refine k_var (by with_unfolding_all exact rfl) ?_
  | with_reducible refine k_c ?_
  | with_reducible refine k_op ?_
  | with_reducible refine k_cons ?_
  | with_reducible refine k_nil ?_
  | with_reducible refine k_name ?_
  | with_reducible refine k_ifS ?_
  | with_reducible refine k_test ?_
  | with_reducible refine k_bl ?_
  | with_reducible refine iteT ?_
  | with_reducible refine iteF ?_
  | with_reducible refine k_nf ?_
  | with_reducible refine k_nt ?_
  | with_reducible refine k_ret ?_
  | with_reducible refine k_cb ?_
  | with_reducible refine k_call ?_
  | with_reducible refine k_not ?_
  | with_reducible refine k_and ?_
  | with_reducible refine k_or ?_
  | with_reducible refine k_drop ?_
  | with_reducible refine k_next ?_
  | with_reducible refine k_bm ?_
  | with_reducible refine k_tyS ?_
  | with_reducible refine k_un ?_
  | with_reducible refine k_neg ?_
  | with_reducible refine k_fld ?_
  | with_reducible refine k_meth ?_
  | with_reducible refine k_tru ?_
  | with_reducible refine k_truB ?_
  | with_reducible refine k_truL ?_
  | with_reducible refine k_sl ?_
  | with_reducible refine k_part ?_
  | with_reducible refine k_nopart ?_
  | with_reducible refine k_i ?_
  | with_reducible refine k_s ?_
  | with_reducible refine k_l ?_
  | with_reducible refine k_tu ?_
  | with_reducible refine k_tup ?_
  | with_reducible refine k_lst ?_
  | with_reducible refine k_pu (by with_unfolding_all exact rfl) (by walk_at "sz") ?_
  | with_reducible refine k_lstC ?_
  | with_reducible refine k_lc ?_
  | with_reducible refine k_yes ?_
  | with_reducible refine k_for ?_
  | with_reducible refine k_jstr ?_
  | with_reducible refine k_jlst ?_
  | with_reducible refine k_jtup ?_
  | with_reducible refine k_rng1 ?_
  | with_reducible refine k_if ?_
  | with_reducible refine k_andV ?_
  | with_reducible refine k_orV ?_
  | with_reducible refine k_notV ?_
  | with_reducible refine k_chain ?_
  | with_reducible refine k_raise ?_
  | with_reducible refine k_stf ?_
  | with_reducible refine k_frz ?_
  | with_reducible refine k_frzV _ ?_
  | with_reducible refine k_make ?_
  | with_reducible refine k_try ?_
  | with_reducible refine k_callI ?_
  | with_reducible refine k_callIS ?_
  | with_reducible refine k_xf ?_
  | with_reducible refine k_sub ?_
  | with_reducible refine k_fs ?_
  | with_reducible refine k_js ?_
  | with_reducible refine k_jnil ?_
  | with_reducible refine k_fmt ?_
  | with_reducible refine k_rev ?_
  | with_reducible refine k_lenSet ?_
  | with_reducible refine k_srtSet ?_
  | with_reducible refine k_gcons ?_
  | with_reducible refine k_gnil ?_
  | with_reducible refine k_gtup (by rfl) ?_
  | with_reducible refine k_addI ?_
  | with_reducible refine k_subI ?_
  | with_reducible refine k_lt ?_
  | with_reducible refine k_le ?_
  | with_reducible refine k_gt ?_
  | with_reducible refine k_ge ?_
  | with_reducible refine k_in ?_
  | with_reducible refine k_notin ?_
  | with_reducible refine k_isN ?_
  | with_reducible refine k_isnotN ?_
  | with_reducible refine k_isB ?_
  | with_reducible refine k_isnotB ?_
  | with_reducible refine k_int ?_
  | with_reducible refine k_intB ?_
  | with_reducible refine k_bool ?_
  | with_reducible refine k_neS ?_
  | with_reducible refine k_eqS ?_
  | with_reducible refine k_eq (by with_unfolding_all exact rfl) ?_
  | with_reducible refine k_ne (by with_unfolding_all exact rfl) ?_
  | with_reducible refine k_ixT (by with_unfolding_all exact rfl) ?_
  | with_reducible refine k_ixL (by with_unfolding_all exact rfl) ?_
  | with_reducible refine k_slL ?_
  | with_reducible refine k_lenL ?_
  | with_reducible refine k_lenT ?_
  | with_reducible refine k_listL ?_
  | with_reducible refine k_listT ?_
  | with_reducible refine k_sz (by walk_at "sz") ?_
  | with_reducible refine k_lenS (by walk_at "sz") ?_
  | with_reducible refine k_addS (by walk_at "sz") ?_
  | with_reducible refine k_slS (by walk_at "sz") ?_))
/-! ### a stage called -/
def Stg.outs (st : Stg) : Sta → List Nat → List (List Nat)
  | _, [] => []
  | s, c :: z => st.out s c :: st.outs (st.step s c) z
def Stg.aft (st : Stg) : Sta → List Nat → Sta
  | s, [] => s
  | s, c :: z => st.aft (st.step s c) z
end Cl
/-! The laws' own stages. -/
namespace Cl
open PySem PySem.Spec PyProof.Rows L2 He ClX
/-- a stage as the laws write it -/
def Stg.tup : Stg → PV
  | .drop nm _ a e l => .tup [.str [100, 114, 111, 112], .str nm, .int a, .bl e, .bl l]
  | .write x nm _ => .tup [.str [119, 114, 105, 116, 101], .str [x], .str nm]
  | .once nm _ => .tup [.str [111, 110, 99, 101], .str nm]
  | .add x => .tup [.str [97, 100, 100], .str [x]]
/-! ### what the laws reckon -/
end Cl
/-! What the program's defs and the laws' helpers do follows their promises: the laws' own stages. -/
namespace Cl
open PySem PySem.Spec PyProof.Rows L2 He ClX
local macro_rules | `(tactic| walk_at "sz") => `(tactic| (rw [sizeLine_eq]; (try simp only [List.length_append, List.length_cons, List.length_nil, List.length_map, List.length_reverse]); omega))
local macro_rules | `(tactic| walk_at "ds") => `(tactic| repeat (first
  | with_reducible refine k_seq ?_
  | with_reducible refine k_asg ?_
  | with_reducible refine k_var (by with_unfolding_all exact rfl) ?_
  | with_reducible refine k_c ?_
  | with_reducible refine k_op ?_
  | with_reducible refine k_cons ?_
  | with_reducible refine k_nil ?_
  | with_reducible refine k_name ?_
  | with_reducible refine k_ifS ?_
  | with_reducible refine k_test ?_
  | with_reducible refine k_bl ?_
  | with_reducible refine iteT ?_
  | with_reducible refine iteF ?_
  | with_reducible refine k_nf ?_
  | with_reducible refine k_nt ?_
  | with_reducible refine k_ret ?_
  | with_reducible refine k_cb ?_
  | with_reducible refine k_call ?_
  | with_reducible refine k_not ?_
  | with_reducible refine k_and ?_
  | with_reducible refine k_or ?_
  | with_reducible refine k_drop ?_
  | with_reducible refine k_next ?_
  | with_reducible refine k_bm ?_
  | with_reducible refine k_tyS ?_
  | with_reducible refine k_un ?_
  | with_reducible refine k_neg ?_
  | with_reducible refine k_fld ?_
  | with_reducible refine k_meth ?_
  | with_reducible refine k_tru ?_
  | with_reducible refine k_truB ?_
  | with_reducible refine k_truL ?_
  | with_reducible refine k_sl ?_
  | with_reducible refine k_part ?_
  | with_reducible refine k_nopart ?_
  | with_reducible refine k_i ?_
  | with_reducible refine k_s ?_
  | with_reducible refine k_l ?_
  | with_reducible refine k_tu ?_
  | with_reducible refine k_tup ?_
  | with_reducible refine k_lst ?_
  | with_reducible refine k_pu (by with_unfolding_all exact rfl) (by walk_at "sz") ?_
  | with_reducible refine k_lstC ?_
  | with_reducible refine k_lc ?_
  | with_reducible refine k_yes ?_
  | with_reducible refine k_for ?_
  | with_reducible refine k_jstr ?_
  | with_reducible refine k_jlst ?_
  | with_reducible refine k_jtup ?_
  | with_reducible refine k_rng1 ?_
  | with_reducible refine k_if ?_
  | with_reducible refine k_andV ?_
  | with_reducible refine k_orV ?_
  | with_reducible refine k_notV ?_
  | with_reducible refine k_chain ?_
  | with_reducible refine k_raise ?_
  | with_reducible refine k_stf ?_
  | with_reducible refine k_frz ?_
  | with_reducible refine k_frzV _ ?_
  | with_reducible refine k_make ?_
  | with_reducible refine k_try ?_
  | with_reducible refine k_callI ?_
  | with_reducible refine k_callIS ?_
  | with_reducible refine k_xf ?_
  | with_reducible refine k_sub ?_
  | with_reducible refine k_fs ?_
  | with_reducible refine k_js ?_
  | with_reducible refine k_jnil ?_
  | with_reducible refine k_fmt ?_
  | with_reducible refine k_rev ?_
  | with_reducible refine k_lenSet ?_
  | with_reducible refine k_srtSet ?_
  | with_reducible refine k_gcons ?_
  | with_reducible refine k_gnil ?_
  | with_reducible refine k_gtup (by rfl) ?_
  | with_reducible refine k_addI ?_
  | with_reducible refine k_subI ?_
  | with_reducible refine k_lt ?_
  | with_reducible refine k_le ?_
  | with_reducible refine k_gt ?_
  | with_reducible refine k_ge ?_
  | with_reducible refine k_in ?_
  | with_reducible refine k_notin ?_
  | with_reducible refine k_isN ?_
  | with_reducible refine k_isnotN ?_
  | with_reducible refine k_isB ?_
  | with_reducible refine k_isnotB ?_
  | with_reducible refine k_int ?_
  | with_reducible refine k_intB ?_
  | with_reducible refine k_bool ?_
  | with_reducible refine k_neS ?_
  | with_reducible refine k_eqS ?_
  | with_reducible refine k_eq (by with_unfolding_all exact rfl) ?_
  | with_reducible refine k_ne (by with_unfolding_all exact rfl) ?_
  | with_reducible refine k_ixT (by with_unfolding_all exact rfl) ?_
  | with_reducible refine k_ixL (by with_unfolding_all exact rfl) ?_
  | with_reducible refine k_slL ?_
  | with_reducible refine k_lenL ?_
  | with_reducible refine k_lenT ?_
  | with_reducible refine k_listL ?_
  | with_reducible refine k_listT ?_
  | with_reducible refine k_sz (by walk_at "sz") ?_
  | with_reducible refine k_lenS (by walk_at "sz") ?_
  | with_reducible refine k_addS (by walk_at "sz") ?_
  | with_reducible refine k_slS (by walk_at "sz") ?_))
theorem comp_mapS {i : Nat} {te : DE} {ds : DSt} {M : Mem} {P : List PV → Mem → Prop} {z : List Nat} (f : Nat → PV) (hz : z.length ≤ 1000000) (ht : ∀ (c : Nat) (Q : DQ), c ∈ z → Q (.v (f c)) M → te (ds.set i (some (vS [c]))) M Q) (h : P (z.map f) M) :
    dComp (hName i) dYes te ds P (z.map fun c => vS [c]) [] M := by
  have key : ∀ (y : List Nat) (acc : List PV), (∀ c ∈ y, c ∈ z) → acc.length + y.length ≤ 1000000 → P (acc ++ y.map f) M → dComp (hName i) dYes te ds P (y.map fun c => vS [c]) acc M := by
    intro y
    induction y with
    | nil => exact fun acc _ _ h => by rw [List.map_nil, List.append_nil] at h; exact h
    | cons c y ih =>
      intro acc hs hl h
      rw [List.length_cons] at hl
      show hName i (vS [c]) ds M _
      walk_at "ds"
      refine ht c _ (hs c List.mem_cons_self) ⟨f c, rfl, by rw [sizeLine_eq]; omega, ih _ (fun d m => hs d (List.mem_cons_of_mem _ m)) (by rw [List.length_append]; simp only [List.length_cons, List.length_nil]; omega) ?_⟩
      rw [List.append_assoc]
      exact h
  exact key z [] (fun _ m => m) (by simp only [List.length_nil]; omega) h
end Cl
/-! What the program's defs and the laws' helpers do follows their promises: calls. -/
namespace Cl
open PySem PySem.Spec PyProof.Rows L2 He ClX
local macro_rules | `(tactic| walk_at "sz") => `(tactic| (rw [sizeLine_eq]; (try simp only [List.length_append, List.length_cons, List.length_nil, List.length_map, List.length_reverse]); omega))
local macro_rules | `(tactic| walk_at "ds") => `(tactic| repeat (first
  | with_reducible refine k_seq ?_
  | with_reducible refine k_asg ?_
  | with_reducible refine k_var (by with_unfolding_all exact rfl) ?_
  | with_reducible refine k_c ?_
  | with_reducible refine k_op ?_
  | with_reducible refine k_cons ?_
  | with_reducible refine k_nil ?_
  | with_reducible refine k_name ?_
  | with_reducible refine k_ifS ?_
  | with_reducible refine k_test ?_
  | with_reducible refine k_bl ?_
  | with_reducible refine iteT ?_
  | with_reducible refine iteF ?_
  | with_reducible refine k_nf ?_
  | with_reducible refine k_nt ?_
  | with_reducible refine k_ret ?_
  | with_reducible refine k_cb ?_
  | with_reducible refine k_call ?_
  | with_reducible refine k_not ?_
  | with_reducible refine k_and ?_
  | with_reducible refine k_or ?_
  | with_reducible refine k_drop ?_
  | with_reducible refine k_next ?_
  | with_reducible refine k_bm ?_
  | with_reducible refine k_tyS ?_
  | with_reducible refine k_un ?_
  | with_reducible refine k_neg ?_
  | with_reducible refine k_fld ?_
  | with_reducible refine k_meth ?_
  | with_reducible refine k_tru ?_
  | with_reducible refine k_truB ?_
  | with_reducible refine k_truL ?_
  | with_reducible refine k_sl ?_
  | with_reducible refine k_part ?_
  | with_reducible refine k_nopart ?_
  | with_reducible refine k_i ?_
  | with_reducible refine k_s ?_
  | with_reducible refine k_l ?_
  | with_reducible refine k_tu ?_
  | with_reducible refine k_tup ?_
  | with_reducible refine k_lst ?_
  | with_reducible refine k_pu (by with_unfolding_all exact rfl) (by walk_at "sz") ?_
  | with_reducible refine k_lstC ?_
  | with_reducible refine k_lc ?_
  | with_reducible refine k_yes ?_
  | with_reducible refine k_for ?_
  | with_reducible refine k_jstr ?_
  | with_reducible refine k_jlst ?_
  | with_reducible refine k_jtup ?_
  | with_reducible refine k_rng1 ?_
  | with_reducible refine k_if ?_
  | with_reducible refine k_andV ?_
  | with_reducible refine k_orV ?_
  | with_reducible refine k_notV ?_
  | with_reducible refine k_chain ?_
  | with_reducible refine k_raise ?_
  | with_reducible refine k_stf ?_
  | with_reducible refine k_frz ?_
  | with_reducible refine k_frzV _ ?_
  | with_reducible refine k_make ?_
  | with_reducible refine k_try ?_
  | with_reducible refine k_callI ?_
  | with_reducible refine k_callIS ?_
  | with_reducible refine k_xf ?_
  | with_reducible refine k_sub ?_
  | with_reducible refine k_fs ?_
  | with_reducible refine k_js ?_
  | with_reducible refine k_jnil ?_
  | with_reducible refine k_fmt ?_
  | with_reducible refine k_rev ?_
  | with_reducible refine k_lenSet ?_
  | with_reducible refine k_srtSet ?_
  | with_reducible refine k_gcons ?_
  | with_reducible refine k_gnil ?_
  | with_reducible refine k_gtup (by rfl) ?_
  | with_reducible refine k_addI ?_
  | with_reducible refine k_subI ?_
  | with_reducible refine k_lt ?_
  | with_reducible refine k_le ?_
  | with_reducible refine k_gt ?_
  | with_reducible refine k_ge ?_
  | with_reducible refine k_in ?_
  | with_reducible refine k_notin ?_
  | with_reducible refine k_isN ?_
  | with_reducible refine k_isnotN ?_
  | with_reducible refine k_isB ?_
  | with_reducible refine k_isnotB ?_
  | with_reducible refine k_int ?_
  | with_reducible refine k_intB ?_
  | with_reducible refine k_bool ?_
  | with_reducible refine k_neS ?_
  | with_reducible refine k_eqS ?_
  | with_reducible refine k_eq (by with_unfolding_all exact rfl) ?_
  | with_reducible refine k_ne (by with_unfolding_all exact rfl) ?_
  | with_reducible refine k_ixT (by with_unfolding_all exact rfl) ?_
  | with_reducible refine k_ixL (by with_unfolding_all exact rfl) ?_
  | with_reducible refine k_slL ?_
  | with_reducible refine k_lenL ?_
  | with_reducible refine k_lenT ?_
  | with_reducible refine k_listL ?_
  | with_reducible refine k_listT ?_
  | with_reducible refine k_sz (by walk_at "sz") ?_
  | with_reducible refine k_lenS (by walk_at "sz") ?_
  | with_reducible refine k_addS (by walk_at "sz") ?_
  | with_reducible refine k_slS (by walk_at "sz") ?_))
section
variable {M : Mem} {Q : DQ} {X : DX} {b : Nat} {ls vw z nm : List Nat}
theorem c_bag {ns : List Int} (h : ∀ c, IsBag c → Bg (M ++ [some c]) M.length → Q (.cell M.length) (M ++ [some c])) : g_l_bag [.v (.scr ns)] M Q X := ⟨ns, rfl, fun c hc => h c hc ⟨c, List.getElem?_concat_length .., hc⟩⟩
theorem c_letters (top : Nat) (hb : Bg M b) (h1 : 1 ≤ top) (h8 : top ≤ 8) (h : ∀ ls M', okL ls → ls.Pairwise (· < ·) → ls.length ≤ top → Bd b M M' → Bg M' b → Q (vS ls) M') : g_l_letters [.cell b, vI top] M Q X := ⟨b, top, rfl, hb, h1, h8, fun ls M' a c e d => h ls M' a c e d (d.bg hb)⟩
theorem c_vowels (hb : Bg M b) (hl : ls.length ≤ 26) (h : ∀ vw M', vw.Sublist ls → Bd b M M' → Bg M' b → Q (vS vw) M') : g_l_vowels [.cell b, vS ls] M Q X := ⟨b, ls, rfl, hb, hl, fun vw M' a d => h vw M' a d (d.bg hb)⟩
theorem c_word {sg : List Nat} (top : Nat) (hb : Bg M b) (h1 : 1 ≤ sg.length) (h2 : sg.length ≤ 60) (ht : top ≤ 60) (h : ∀ z M', (∀ c ∈ z, c ∈ sg) → z.length ≤ top → Bd b M M' → Bg M' b → Q (vS z) M') : g_l_word [.cell b, vS sg, vI top] M Q X := ⟨b, sg, top, rfl, hb, h1, h2, ht, fun z M' a c d => h z M' a c d (d.bg hb)⟩
theorem srt_self {l : List Nat} (h : l.Pairwise (· < ·)) : srt l = l := srt_eq (List.Perm.refl l) h
theorem alph_srt (hl : ls.Pairwise (· < ·)) (hv : vw.Sublist ls) : PV.obj .Alphabet [.str (srt ls), .str (srt vw), .str (cons (srt ls) vw), .str (45 :: srt ls)] = alph ls vw := by
  rw [srt_self hl, srt_self (hl.sublist hv)]
  rfl
theorem c_alph (ol : okL ls) (asc : ls.Pairwise (· < ·)) (sub : vw.Sublist ls) (h : Q (.v (alph ls vw)) M) : g_Alphabet_init [.cell M.length, vS ls, vS vw] (M ++ [some (.obj .Alphabet [])]) (mkQ .Alphabet M Q) X := by
  have ov : okV ls vw := ⟨fun c hc => sub.subset hc, (nd_of_lt asc).sublist sub⟩
  have h1 := ol.2.2.1
  have h2 := sub.length_le
  refine ⟨M.length, ls, vw, rfl, List.getElem?_concat_length .., by omega, by omega, fun n => absurd ol n, fun _ n => absurd ov n, fun _ _ => mk_done ?_⟩
  rw [alph_srt asc sub]
  exact h
theorem isW_of (h : ∀ c ∈ z, c ∈ 45 :: ls) : isW ls z = true := isW_iff.mpr h
end
end Cl
/-! What the program's defs and the laws' helpers do follows their promises: stages. -/
namespace Cl
open PySem PySem.Spec PyProof.Rows L2 He ClX
local macro_rules | `(tactic| walk_at "sz") => `(tactic| (rw [sizeLine_eq]; (try simp only [List.length_append, List.length_cons, List.length_nil, List.length_map, List.length_reverse]); omega))
local macro_rules | `(tactic| walk_at "ds") => `(tactic| repeat (first
  | with_reducible refine k_seq ?_
  | with_reducible refine k_asg ?_
  | with_reducible refine k_var (by with_unfolding_all exact rfl) ?_
  | with_reducible refine k_c ?_
  | with_reducible refine k_op ?_
  | with_reducible refine k_cons ?_
  | with_reducible refine k_nil ?_
  | with_reducible refine k_name ?_
  | with_reducible refine k_ifS ?_
  | with_reducible refine k_test ?_
  | with_reducible refine k_bl ?_
  | with_reducible refine iteT ?_
  | with_reducible refine iteF ?_
  | with_reducible refine k_nf ?_
  | with_reducible refine k_nt ?_
  | with_reducible refine k_ret ?_
  | with_reducible refine k_cb ?_
  | with_reducible refine k_call ?_
  | with_reducible refine k_not ?_
  | with_reducible refine k_and ?_
  | with_reducible refine k_or ?_
  | with_reducible refine k_drop ?_
  | with_reducible refine k_next ?_
  | with_reducible refine k_bm ?_
  | with_reducible refine k_tyS ?_
  | with_reducible refine k_un ?_
  | with_reducible refine k_neg ?_
  | with_reducible refine k_fld ?_
  | with_reducible refine k_meth ?_
  | with_reducible refine k_tru ?_
  | with_reducible refine k_truB ?_
  | with_reducible refine k_truL ?_
  | with_reducible refine k_sl ?_
  | with_reducible refine k_part ?_
  | with_reducible refine k_nopart ?_
  | with_reducible refine k_i ?_
  | with_reducible refine k_s ?_
  | with_reducible refine k_l ?_
  | with_reducible refine k_tu ?_
  | with_reducible refine k_tup ?_
  | with_reducible refine k_lst ?_
  | with_reducible refine k_pu (by with_unfolding_all exact rfl) (by walk_at "sz") ?_
  | with_reducible refine k_lstC ?_
  | with_reducible refine k_lc ?_
  | with_reducible refine k_yes ?_
  | with_reducible refine k_for ?_
  | with_reducible refine k_jstr ?_
  | with_reducible refine k_jlst ?_
  | with_reducible refine k_jtup ?_
  | with_reducible refine k_rng1 ?_
  | with_reducible refine k_if ?_
  | with_reducible refine k_andV ?_
  | with_reducible refine k_orV ?_
  | with_reducible refine k_notV ?_
  | with_reducible refine k_chain ?_
  | with_reducible refine k_raise ?_
  | with_reducible refine k_stf ?_
  | with_reducible refine k_frz ?_
  | with_reducible refine k_frzV _ ?_
  | with_reducible refine k_make ?_
  | with_reducible refine k_try ?_
  | with_reducible refine k_callI ?_
  | with_reducible refine k_callIS ?_
  | with_reducible refine k_xf ?_
  | with_reducible refine k_sub ?_
  | with_reducible refine k_fs ?_
  | with_reducible refine k_js ?_
  | with_reducible refine k_jnil ?_
  | with_reducible refine k_fmt ?_
  | with_reducible refine k_rev ?_
  | with_reducible refine k_lenSet ?_
  | with_reducible refine k_srtSet ?_
  | with_reducible refine k_gcons ?_
  | with_reducible refine k_gnil ?_
  | with_reducible refine k_gtup (by rfl) ?_
  | with_reducible refine k_addI ?_
  | with_reducible refine k_subI ?_
  | with_reducible refine k_lt ?_
  | with_reducible refine k_le ?_
  | with_reducible refine k_gt ?_
  | with_reducible refine k_ge ?_
  | with_reducible refine k_in ?_
  | with_reducible refine k_notin ?_
  | with_reducible refine k_isN ?_
  | with_reducible refine k_isnotN ?_
  | with_reducible refine k_isB ?_
  | with_reducible refine k_isnotB ?_
  | with_reducible refine k_int ?_
  | with_reducible refine k_intB ?_
  | with_reducible refine k_bool ?_
  | with_reducible refine k_neS ?_
  | with_reducible refine k_eqS ?_
  | with_reducible refine k_eq (by with_unfolding_all exact rfl) ?_
  | with_reducible refine k_ne (by with_unfolding_all exact rfl) ?_
  | with_reducible refine k_ixT (by with_unfolding_all exact rfl) ?_
  | with_reducible refine k_ixL (by with_unfolding_all exact rfl) ?_
  | with_reducible refine k_slL ?_
  | with_reducible refine k_lenL ?_
  | with_reducible refine k_lenT ?_
  | with_reducible refine k_listL ?_
  | with_reducible refine k_listT ?_
  | with_reducible refine k_sz (by walk_at "sz") ?_
  | with_reducible refine k_lenS (by walk_at "sz") ?_
  | with_reducible refine k_addS (by walk_at "sz") ?_
  | with_reducible refine k_slS (by walk_at "sz") ?_))
end Cl
/-! The laws' own: a set's name, drawn stages, stages built, walks sign by sign. -/
/-! Stages read from their written form: what they promise. -/
namespace Cl
open PySem PySem.Spec PyProof.Rows L2 He ClX
instance (ls z : List Nat) : Decidable (okS ls z) := by unfold okS; infer_instance
instance (ls z : List Nat) : Decidable (okN ls z) := by unfold okN; infer_instance
/-! ### cuts of lists -/
/-! ### isinstance -/
end Cl
/-! What the program's defs and the laws' helpers do follows their promises: sets, stages drawn and built. -/
namespace Cl
open PySem PySem.Spec PyProof.Rows L2 He ClX
local macro_rules | `(tactic| walk_at "sz") => `(tactic| (rw [sizeLine_eq]; (try simp only [List.length_append, List.length_cons, List.length_nil, List.length_map, List.length_reverse]); omega))
local macro_rules | `(tactic| walk_at "ds") => `(tactic| repeat (first
  | with_reducible refine k_seq ?_
  | with_reducible refine k_asg ?_
  | with_reducible refine k_var (by with_unfolding_all exact rfl) ?_
  | with_reducible refine k_c ?_
  | with_reducible refine k_op ?_
  | with_reducible refine k_cons ?_
  | with_reducible refine k_nil ?_
  | with_reducible refine k_name ?_
  | with_reducible refine k_ifS ?_
  | with_reducible refine k_test ?_
  | with_reducible refine k_bl ?_
  | with_reducible refine iteT ?_
  | with_reducible refine iteF ?_
  | with_reducible refine k_nf ?_
  | with_reducible refine k_nt ?_
  | with_reducible refine k_ret ?_
  | with_reducible refine k_cb ?_
  | with_reducible refine k_call ?_
  | with_reducible refine k_not ?_
  | with_reducible refine k_and ?_
  | with_reducible refine k_or ?_
  | with_reducible refine k_drop ?_
  | with_reducible refine k_next ?_
  | with_reducible refine k_bm ?_
  | with_reducible refine k_tyS ?_
  | with_reducible refine k_un ?_
  | with_reducible refine k_neg ?_
  | with_reducible refine k_fld ?_
  | with_reducible refine k_meth ?_
  | with_reducible refine k_tru ?_
  | with_reducible refine k_truB ?_
  | with_reducible refine k_truL ?_
  | with_reducible refine k_sl ?_
  | with_reducible refine k_part ?_
  | with_reducible refine k_nopart ?_
  | with_reducible refine k_i ?_
  | with_reducible refine k_s ?_
  | with_reducible refine k_l ?_
  | with_reducible refine k_tu ?_
  | with_reducible refine k_tup ?_
  | with_reducible refine k_lst ?_
  | with_reducible refine k_pu (by with_unfolding_all exact rfl) (by walk_at "sz") ?_
  | with_reducible refine k_lstC ?_
  | with_reducible refine k_lc ?_
  | with_reducible refine k_yes ?_
  | with_reducible refine k_for ?_
  | with_reducible refine k_jstr ?_
  | with_reducible refine k_jlst ?_
  | with_reducible refine k_jtup ?_
  | with_reducible refine k_rng1 ?_
  | with_reducible refine k_if ?_
  | with_reducible refine k_andV ?_
  | with_reducible refine k_orV ?_
  | with_reducible refine k_notV ?_
  | with_reducible refine k_chain ?_
  | with_reducible refine k_raise ?_
  | with_reducible refine k_stf ?_
  | with_reducible refine k_frz ?_
  | with_reducible refine k_frzV _ ?_
  | with_reducible refine k_make ?_
  | with_reducible refine k_try ?_
  | with_reducible refine k_callI ?_
  | with_reducible refine k_callIS ?_
  | with_reducible refine k_xf ?_
  | with_reducible refine k_sub ?_
  | with_reducible refine k_fs ?_
  | with_reducible refine k_js ?_
  | with_reducible refine k_jnil ?_
  | with_reducible refine k_fmt ?_
  | with_reducible refine k_rev ?_
  | with_reducible refine k_lenSet ?_
  | with_reducible refine k_srtSet ?_
  | with_reducible refine k_gcons ?_
  | with_reducible refine k_gnil ?_
  | with_reducible refine k_gtup (by rfl) ?_
  | with_reducible refine k_addI ?_
  | with_reducible refine k_subI ?_
  | with_reducible refine k_lt ?_
  | with_reducible refine k_le ?_
  | with_reducible refine k_gt ?_
  | with_reducible refine k_ge ?_
  | with_reducible refine k_in ?_
  | with_reducible refine k_notin ?_
  | with_reducible refine k_isN ?_
  | with_reducible refine k_isnotN ?_
  | with_reducible refine k_isB ?_
  | with_reducible refine k_isnotB ?_
  | with_reducible refine k_int ?_
  | with_reducible refine k_intB ?_
  | with_reducible refine k_bool ?_
  | with_reducible refine k_neS ?_
  | with_reducible refine k_eqS ?_
  | with_reducible refine k_eq (by with_unfolding_all exact rfl) ?_
  | with_reducible refine k_ne (by with_unfolding_all exact rfl) ?_
  | with_reducible refine k_ixT (by with_unfolding_all exact rfl) ?_
  | with_reducible refine k_ixL (by with_unfolding_all exact rfl) ?_
  | with_reducible refine k_slL ?_
  | with_reducible refine k_lenL ?_
  | with_reducible refine k_lenT ?_
  | with_reducible refine k_listL ?_
  | with_reducible refine k_listT ?_
  | with_reducible refine k_sz (by walk_at "sz") ?_
  | with_reducible refine k_lenS (by walk_at "sz") ?_
  | with_reducible refine k_addS (by walk_at "sz") ?_
  | with_reducible refine k_slS (by walk_at "sz") ?_))
end Cl
/-! Stages are read as promised. -/
namespace Cl
open PySem PySem.Spec PyProof.Rows L2 He ClX
local macro_rules | `(tactic| walk_at "sz") => `(tactic| (rw [sizeLine_eq]; (try simp only [List.length_append, List.length_cons, List.length_nil, List.length_map, List.length_reverse]); omega))
local macro_rules | `(tactic| walk_at "ds") => `(tactic| repeat (first
  | with_reducible refine k_seq ?_
  | with_reducible refine k_asg ?_
  | with_reducible refine k_var (by with_unfolding_all exact rfl) ?_
  | with_reducible refine k_c ?_
  | with_reducible refine k_op ?_
  | with_reducible refine k_cons ?_
  | with_reducible refine k_nil ?_
  | with_reducible refine k_name ?_
  | with_reducible refine k_ifS ?_
  | with_reducible refine k_test ?_
  | with_reducible refine k_bl ?_
  | with_reducible refine iteT ?_
  | with_reducible refine iteF ?_
  | with_reducible refine k_nf ?_
  | with_reducible refine k_nt ?_
  | with_reducible refine k_ret ?_
  | with_reducible refine k_cb ?_
  | with_reducible refine k_call ?_
  | with_reducible refine k_not ?_
  | with_reducible refine k_and ?_
  | with_reducible refine k_or ?_
  | with_reducible refine k_drop ?_
  | with_reducible refine k_next ?_
  | with_reducible refine k_bm ?_
  | with_reducible refine k_tyS ?_
  | with_reducible refine k_un ?_
  | with_reducible refine k_neg ?_
  | with_reducible refine k_fld ?_
  | with_reducible refine k_meth ?_
  | with_reducible refine k_tru ?_
  | with_reducible refine k_truB ?_
  | with_reducible refine k_truL ?_
  | with_reducible refine k_sl ?_
  | with_reducible refine k_part ?_
  | with_reducible refine k_nopart ?_
  | with_reducible refine k_i ?_
  | with_reducible refine k_s ?_
  | with_reducible refine k_l ?_
  | with_reducible refine k_tu ?_
  | with_reducible refine k_tup ?_
  | with_reducible refine k_lst ?_
  | with_reducible refine k_pu (by with_unfolding_all exact rfl) (by walk_at "sz") ?_
  | with_reducible refine k_lstC ?_
  | with_reducible refine k_lc ?_
  | with_reducible refine k_yes ?_
  | with_reducible refine k_for ?_
  | with_reducible refine k_jstr ?_
  | with_reducible refine k_jlst ?_
  | with_reducible refine k_jtup ?_
  | with_reducible refine k_rng1 ?_
  | with_reducible refine k_if ?_
  | with_reducible refine k_andV ?_
  | with_reducible refine k_orV ?_
  | with_reducible refine k_notV ?_
  | with_reducible refine k_chain ?_
  | with_reducible refine k_raise ?_
  | with_reducible refine k_stf ?_
  | with_reducible refine k_frz ?_
  | with_reducible refine k_frzV _ ?_
  | with_reducible refine k_make ?_
  | with_reducible refine k_try ?_
  | with_reducible refine k_callI ?_
  | with_reducible refine k_callIS ?_
  | with_reducible refine k_xf ?_
  | with_reducible refine k_sub ?_
  | with_reducible refine k_fs ?_
  | with_reducible refine k_js ?_
  | with_reducible refine k_jnil ?_
  | with_reducible refine k_fmt ?_
  | with_reducible refine k_rev ?_
  | with_reducible refine k_lenSet ?_
  | with_reducible refine k_srtSet ?_
  | with_reducible refine k_gcons ?_
  | with_reducible refine k_gnil ?_
  | with_reducible refine k_gtup (by rfl) ?_
  | with_reducible refine k_addI ?_
  | with_reducible refine k_subI ?_
  | with_reducible refine k_lt ?_
  | with_reducible refine k_le ?_
  | with_reducible refine k_gt ?_
  | with_reducible refine k_ge ?_
  | with_reducible refine k_in ?_
  | with_reducible refine k_notin ?_
  | with_reducible refine k_isN ?_
  | with_reducible refine k_isnotN ?_
  | with_reducible refine k_isB ?_
  | with_reducible refine k_isnotB ?_
  | with_reducible refine k_int ?_
  | with_reducible refine k_intB ?_
  | with_reducible refine k_bool ?_
  | with_reducible refine k_neS ?_
  | with_reducible refine k_eqS ?_
  | with_reducible refine k_eq (by with_unfolding_all exact rfl) ?_
  | with_reducible refine k_ne (by with_unfolding_all exact rfl) ?_
  | with_reducible refine k_ixT (by with_unfolding_all exact rfl) ?_
  | with_reducible refine k_ixL (by with_unfolding_all exact rfl) ?_
  | with_reducible refine k_slL ?_
  | with_reducible refine k_lenL ?_
  | with_reducible refine k_lenT ?_
  | with_reducible refine k_listL ?_
  | with_reducible refine k_listT ?_
  | with_reducible refine k_sz (by walk_at "sz") ?_
  | with_reducible refine k_lenS (by walk_at "sz") ?_
  | with_reducible refine k_addS (by walk_at "sz") ?_
  | with_reducible refine k_slS (by walk_at "sz") ?_))
local macro_rules | `(tactic| walk_at "dz") => `(tactic| (walk_at "ds"; repeat (first
  | (with_reducible refine k_ixm0 ?_; walk_at "ds")
  | (with_reducible refine k_ixm1 ?_; walk_at "ds")
  | (with_reducible refine k_ixm2 ?_; walk_at "ds")
  | (with_reducible refine k_ixm3 ?_; walk_at "ds")
  | (with_reducible refine z_eq ?_; walk_at "ds")
  | (with_reducible refine z_neq ?_; walk_at "ds")
  | (with_reducible refine z_F (c := isNon (.v _)) (by with_unfolding_all exact rfl) ?_; walk_at "ds")
  | (with_reducible refine z_nF (c := isNon (.v _)) (by with_unfolding_all exact rfl) ?_; walk_at "ds")
  | (with_reducible refine z_T (c := isNon (.v _)) (by with_unfolding_all exact rfl) ?_; walk_at "ds")
  | (with_reducible refine z_nT (c := isNon (.v _)) (by with_unfolding_all exact rfl) ?_; walk_at "ds")
  | (with_reducible refine z_lnF (by first | omega | (simp; done) | (simp; omega)) ?_; walk_at "ds")
  | (with_reducible refine z_lnT (by first | omega | (simp; done) | (simp; omega)) ?_; walk_at "ds")
  | (with_reducible refine z_nlnF (by first | omega | (simp; done) | (simp; omega)) ?_; walk_at "ds")
  | (with_reducible refine z_nlnT (by first | omega | (simp; done) | (simp; omega)) ?_; walk_at "ds")
  | (with_reducible refine z_lgF (by first | omega | (simp; done) | (simp; omega)) ?_; walk_at "ds")
  | (with_reducible refine z_lgT (by first | omega | (simp; done) | (simp; omega)) ?_; walk_at "ds")
  | (with_reducible refine z_F (by decide) ?_; walk_at "ds")
  | (with_reducible refine z_T (by decide) ?_; walk_at "ds")
  | (with_reducible refine z_nF (by decide) ?_; walk_at "ds")
  | (with_reducible refine z_nT (by decide) ?_; walk_at "ds"))))
end Cl
/-! Written forms: words, read back. -/
namespace Cl
open PySem PySem.Spec PyProof.Rows L2 He ClX
local macro_rules | `(tactic| walk_at "sz") => `(tactic| (rw [sizeLine_eq]; (try simp only [List.length_append, List.length_cons, List.length_nil, List.length_map, List.length_reverse]); omega))
local macro_rules | `(tactic| walk_at "ds") => `(tactic| repeat (first
  | with_reducible refine k_seq ?_
  | with_reducible refine k_asg ?_
  | with_reducible refine k_var (by with_unfolding_all exact rfl) ?_
  | with_reducible refine k_c ?_
  | with_reducible refine k_op ?_
  | with_reducible refine k_cons ?_
  | with_reducible refine k_nil ?_
  | with_reducible refine k_name ?_
  | with_reducible refine k_ifS ?_
  | with_reducible refine k_test ?_
  | with_reducible refine k_bl ?_
  | with_reducible refine iteT ?_
  | with_reducible refine iteF ?_
  | with_reducible refine k_nf ?_
  | with_reducible refine k_nt ?_
  | with_reducible refine k_ret ?_
  | with_reducible refine k_cb ?_
  | with_reducible refine k_call ?_
  | with_reducible refine k_not ?_
  | with_reducible refine k_and ?_
  | with_reducible refine k_or ?_
  | with_reducible refine k_drop ?_
  | with_reducible refine k_next ?_
  | with_reducible refine k_bm ?_
  | with_reducible refine k_tyS ?_
  | with_reducible refine k_un ?_
  | with_reducible refine k_neg ?_
  | with_reducible refine k_fld ?_
  | with_reducible refine k_meth ?_
  | with_reducible refine k_tru ?_
  | with_reducible refine k_truB ?_
  | with_reducible refine k_truL ?_
  | with_reducible refine k_sl ?_
  | with_reducible refine k_part ?_
  | with_reducible refine k_nopart ?_
  | with_reducible refine k_i ?_
  | with_reducible refine k_s ?_
  | with_reducible refine k_l ?_
  | with_reducible refine k_tu ?_
  | with_reducible refine k_tup ?_
  | with_reducible refine k_lst ?_
  | with_reducible refine k_pu (by with_unfolding_all exact rfl) (by walk_at "sz") ?_
  | with_reducible refine k_lstC ?_
  | with_reducible refine k_lc ?_
  | with_reducible refine k_yes ?_
  | with_reducible refine k_for ?_
  | with_reducible refine k_jstr ?_
  | with_reducible refine k_jlst ?_
  | with_reducible refine k_jtup ?_
  | with_reducible refine k_rng1 ?_
  | with_reducible refine k_if ?_
  | with_reducible refine k_andV ?_
  | with_reducible refine k_orV ?_
  | with_reducible refine k_notV ?_
  | with_reducible refine k_chain ?_
  | with_reducible refine k_raise ?_
  | with_reducible refine k_stf ?_
  | with_reducible refine k_frz ?_
  | with_reducible refine k_frzV _ ?_
  | with_reducible refine k_make ?_
  | with_reducible refine k_try ?_
  | with_reducible refine k_callI ?_
  | with_reducible refine k_callIS ?_
  | with_reducible refine k_xf ?_
  | with_reducible refine k_sub ?_
  | with_reducible refine k_fs ?_
  | with_reducible refine k_js ?_
  | with_reducible refine k_jnil ?_
  | with_reducible refine k_fmt ?_
  | with_reducible refine k_rev ?_
  | with_reducible refine k_lenSet ?_
  | with_reducible refine k_srtSet ?_
  | with_reducible refine k_gcons ?_
  | with_reducible refine k_gnil ?_
  | with_reducible refine k_gtup (by rfl) ?_
  | with_reducible refine k_addI ?_
  | with_reducible refine k_subI ?_
  | with_reducible refine k_lt ?_
  | with_reducible refine k_le ?_
  | with_reducible refine k_gt ?_
  | with_reducible refine k_ge ?_
  | with_reducible refine k_in ?_
  | with_reducible refine k_notin ?_
  | with_reducible refine k_isN ?_
  | with_reducible refine k_isnotN ?_
  | with_reducible refine k_isB ?_
  | with_reducible refine k_isnotB ?_
  | with_reducible refine k_int ?_
  | with_reducible refine k_intB ?_
  | with_reducible refine k_bool ?_
  | with_reducible refine k_neS ?_
  | with_reducible refine k_eqS ?_
  | with_reducible refine k_eq (by with_unfolding_all exact rfl) ?_
  | with_reducible refine k_ne (by with_unfolding_all exact rfl) ?_
  | with_reducible refine k_ixT (by with_unfolding_all exact rfl) ?_
  | with_reducible refine k_ixL (by with_unfolding_all exact rfl) ?_
  | with_reducible refine k_slL ?_
  | with_reducible refine k_lenL ?_
  | with_reducible refine k_lenT ?_
  | with_reducible refine k_listL ?_
  | with_reducible refine k_listT ?_
  | with_reducible refine k_sz (by walk_at "sz") ?_
  | with_reducible refine k_lenS (by walk_at "sz") ?_
  | with_reducible refine k_addS (by walk_at "sz") ?_
  | with_reducible refine k_slS (by walk_at "sz") ?_))
local macro_rules | `(tactic| walk_at "dz") => `(tactic| (walk_at "ds"; repeat (first
  | (with_reducible refine k_ixm0 ?_; walk_at "ds")
  | (with_reducible refine k_ixm1 ?_; walk_at "ds")
  | (with_reducible refine k_ixm2 ?_; walk_at "ds")
  | (with_reducible refine k_ixm3 ?_; walk_at "ds")
  | (with_reducible refine z_eq ?_; walk_at "ds")
  | (with_reducible refine z_neq ?_; walk_at "ds")
  | (with_reducible refine z_F (c := isNon (.v _)) (by with_unfolding_all exact rfl) ?_; walk_at "ds")
  | (with_reducible refine z_nF (c := isNon (.v _)) (by with_unfolding_all exact rfl) ?_; walk_at "ds")
  | (with_reducible refine z_T (c := isNon (.v _)) (by with_unfolding_all exact rfl) ?_; walk_at "ds")
  | (with_reducible refine z_nT (c := isNon (.v _)) (by with_unfolding_all exact rfl) ?_; walk_at "ds")
  | (with_reducible refine z_lnF (by first | omega | (simp; done) | (simp; omega)) ?_; walk_at "ds")
  | (with_reducible refine z_lnT (by first | omega | (simp; done) | (simp; omega)) ?_; walk_at "ds")
  | (with_reducible refine z_nlnF (by first | omega | (simp; done) | (simp; omega)) ?_; walk_at "ds")
  | (with_reducible refine z_nlnT (by first | omega | (simp; done) | (simp; omega)) ?_; walk_at "ds")
  | (with_reducible refine z_lgF (by first | omega | (simp; done) | (simp; omega)) ?_; walk_at "ds")
  | (with_reducible refine z_lgT (by first | omega | (simp; done) | (simp; omega)) ?_; walk_at "ds")
  | (with_reducible refine z_F (by decide) ?_; walk_at "ds")
  | (with_reducible refine z_T (by decide) ?_; walk_at "ds")
  | (with_reducible refine z_nF (by decide) ?_; walk_at "ds")
  | (with_reducible refine z_nT (by decide) ?_; walk_at "ds"))))
/-! ### kinds -/
end Cl
/-! Rules as data: what their defs promise. -/
namespace Cl
open PySem PySem.Spec PyProof.Rows L2 He ClX
/-- the values of states -/
def vals : List Stg → List Sta → List PV
  | st :: sts, s :: ss => st.val s :: vals sts ss
  | _, _ => []
/-- a text is pushed through stages: the states behind, what is written -/
def push : List Stg → List Sta → List Nat → List Sta × List Nat
  | st :: sts, s :: ss, z => (st.aft s z :: (push sts ss (st.outs s z).flatten).1, (push sts ss (st.outs s z).flatten).2)
  | _, ss, z => (ss, z)
/-! ### plain facts -/
/-! ### sizes -/
/-! ### words -/
/-! ### promises -/
/-! the laws' own -/
end Cl
/-! Machines as data; what the program's defs of machines promise. -/
namespace Cl
open PySem PySem.Spec PyProof.Rows L2 He ClX
/-- a step of a machine: a place and a text, or none -/
abbrev Stp := Option (Int × List Nat)
def stpP : Stp → PV
  | none => .non
  | some (p, t) => .tup [.int p, .str t]
def endP : Option (List Nat) → PV
  | none => .non
  | some t => .str t
def rowP (r : List Stp) : PV := .lst (r.map stpP)
abbrev rowsP (rs : List (List Stp)) : PV := .lst (rs.map rowP)
abbrev endsP (es : List (Option (List Nat))) : PV := .lst (es.map endP)
def badStp (ls : List Nat) (n : Nat) : Stp → Bool
  | none => false
  | some (p, t) => !(decide (0 ≤ p) && decide (p < n) && isW ls t)
def badEnd (ls : List Nat) : Option (List Nat) → Bool
  | none => false
  | some t => !isW ls t
def badAt (ls : List Nat) (rs : List (List Stp)) (es : List (Option (List Nat))) (i : Nat) : Bool :=
  (match rs[i]? with | some r => !decide (r.length = ls.length + 1) || r.any (badStp ls rs.length) | none => false) || (match es[i]? with | some e => badEnd ls e | none => false)
/-- where a table is wrong -/
def chkM (ls : List Nat) (f : List Nat) (rs : List (List Stp)) (es : List (Option (List Nat))) : Option Int :=
  if rs = [] ∨ rs.length ≠ es.length ∨ isW ls f = false then some (-1) else ((List.range rs.length).find? (badAt ls rs es)).map fun (i : Nat) => (i : Int)
/-- bounds of a table -/
structure TabB (f : List Nat) (rs : List (List Stp)) (es : List (Option (List Nat))) : Prop where
  fl : f.length ≤ 1000
  r : rs.length ≤ 1000
  e : es.length ≤ 1000
  w : ∀ r ∈ rs, r.length ≤ 1000
  t : ∀ r ∈ rs, ∀ p t, some (p, t) ∈ r → t.length ≤ 1000
  u : ∀ t, some t ∈ es → t.length ≤ 1000
def g_check_machine : DSp := fun ds M Q E => ∃ ls vw f rs es d e, ds = [.v (alph ls vw), vS f, d, e] ∧ snap M 2 d = some (rowsP rs) ∧ snap M 1 e = some (endsP es) ∧ ls.length ≤ 60 ∧ TabB f rs es ∧ (chkM ls f rs es = none → Q (.v .non) M) ∧ ∀ p, chkM ls f rs es = some p → E ⟨.BadTable, [.int p]⟩ M
theorem len_g_check_machine (ds : List D) (M : Mem) (Q : DQ) (E : DX) (h : g_check_machine ds M Q E) : ds.length = 4 := by obtain ⟨_, _, _, _, _, _, _, rfl, _⟩ := h; rfl
def g_Machine_init : DSp := fun ds M Q E => ∃ i : Nat, ∃ ls vw f rs es d e, ds = [.cell i, .v (alph ls vw), vS f, d, e] ∧ M[i]? = some (some (.obj .Machine [])) ∧ snap M 2 d = some (rowsP rs) ∧ snap M 1 e = some (endsP es) ∧ ls.length ≤ 60 ∧ TabB f rs es ∧ (chkM ls f rs es = none → Q (.v .non) (M.set i (some (.obj .Machine [.v (alph ls vw), vS f, .v (rowsP rs), .v (endsP es)])))) ∧ ∀ p, chkM ls f rs es = some p → E ⟨.BadTable, [.int p]⟩ M
theorem len_g_Machine_init (ds : List D) (M : Mem) (Q : DQ) (E : DX) (h : g_Machine_init ds M Q E) : ds.length = 5 := by obtain ⟨_, _, _, _, _, _, _, _, rfl, _⟩ := h; rfl
/-- the texts of a table are texts -/
def ascT (rs : List (List Stp)) (es : List (Option (List Nat))) : Prop := (rowsP rs).lay 60 = true ∧ (endsP es).lay 60 = true
/-- a table that is right -/
structure OkT (ls : List Nat) (f : List Nat) (rs : List (List Stp)) (es : List (Option (List Nat))) (b : Nat) : Prop where
  ne : rs ≠ []
  le : rs.length = es.length
  fl : f.length ≤ b
  fw : isW ls f = true
  w : ∀ r ∈ rs, r.length = ls.length + 1
  s : ∀ r ∈ rs, ∀ p t, some (p, t) ∈ r → 0 ≤ p ∧ p < rs.length ∧ isW ls t = true ∧ t.length ≤ b
  e : ∀ t, some t ∈ es → isW ls t = true ∧ t.length ≤ b
/-! ### lists that are looked through -/
theorem snap_ls {M : Mem} {n : Nat} {d : D} {xs : List PV} (h : snap M (n + 1) d = some (.lst xs)) : ∃ ys, lsOf M d = some ys ∧ ys.mapM (snap M n) = some xs := by
  cases d with
  | v x => cases h; exact ⟨xs.map D.v, rfl, snap_vs xs⟩
  | exn a => cases h
  | cell i =>
    have h' : (match M[i]? with | some (some (Cell.lst ds)) => (ds.mapM (snap M n)).map PV.lst | _ => none) = some (.lst xs) := h
    split at h'
    · rename_i ds m
      cases hm : ds.mapM (snap M n) with
      | none => rw [hm] at h'; cases h'
      | some ys => rw [hm] at h'; cases h'; exact ⟨ds, ls_cell m, hm⟩
    · cases h'
theorem mapM_len {α β : Type} {f : α → Option β} : ∀ {ys : List α} {xs : List β}, ys.mapM f = some xs → ys.length = xs.length
  | [], xs, h => by cases h; rfl
  | y :: ys, xs, h => by
    rw [List.mapM_cons] at h
    cases hy : f y with
    | none => rw [hy] at h; cases h
    | some x =>
      rw [hy] at h
      cases hz : ys.mapM f with
      | none => rw [hz] at h; cases h
      | some zs => rw [hz] at h; cases h; rw [List.length_cons, List.length_cons, mapM_len hz]
theorem mapM_get {α β : Type} {f : α → Option β} : ∀ {ys : List α} {xs : List β} {i : Nat} {y : α}, ys.mapM f = some xs → ys[i]? = some y → ∃ x, xs[i]? = some x ∧ f y = some x
  | [], xs, i, y, _, e => by simp at e
  | a :: ys, xs, i, y, h, e => by
    rw [List.mapM_cons] at h
    cases hy : f a with
    | none => rw [hy] at h; cases h
    | some x =>
      rw [hy] at h
      cases hz : ys.mapM f with
      | none => rw [hz] at h; cases h
      | some zs =>
        rw [hz] at h
        cases h
        cases i with
        | zero => cases e; exact ⟨x, rfl, hy⟩
        | succ i =>
          have e' : ys[i]? = some y := by simpa using e
          obtain ⟨x', h1, h2⟩ := mapM_get hz e'
          exact ⟨x', by simpa using h1, h2⟩
theorem mapM_got {α β : Type} {f : α → Option β} {ys : List α} {xs : List β} {i : Nat} {x : β} (h : ys.mapM f = some xs) (e : xs[i]? = some x) : ∃ y, ys[i]? = some y ∧ f y = some x := by
  have hi : i < ys.length := by rw [mapM_len h]; exact (List.getElem?_eq_some_iff.mp e).1
  obtain ⟨x', e', hf⟩ := mapM_get h (List.getElem?_eq_getElem hi)
  rw [e] at e'
  cases e'
  exact ⟨_, List.getElem?_eq_getElem hi, hf⟩
theorem snap_0 {M : Mem} {d : D} {x : PV} (h : snap M 0 d = some x) : d = .v x := by
  cases d with
  | v y => cases h; rfl
  | cell i => cases h
  | exn a => cases h
theorem sq_of_ls {M : Mem} {d : D} {ys : List D} (h : lsOf M d = some ys) : sqOf M d = some ys := by
  cases d with
  | v x => cases x <;> first | exact h | cases h
  | cell i => exact h
  | exn a => cases h
section
variable {M : Mem} {Q : DQ} {d : D} {ys : List D}
theorem k_lenLs (h : lsOf M d = some ys) (q : Q (vI ys.length) M) : uLen [d] M Q := ⟨d, rfl, Or.inr ⟨ys, sq_of_ls h, q⟩⟩
theorem k_ixLs {i : Nat} {y : D} (h : lsOf M d = some ys) (e : ys[i]? = some y) (q : Q y M) : uIx d (vI i) M Q := by
  cases d with
  | v x =>
    cases x with
    | lst xs =>
      cases h
      rw [List.getElem?_map] at e
      cases hx : xs[i]? with
      | none => rw [hx] at e; cases e
      | some u => rw [hx] at e; cases e; exact k_ixL (atI_nat hx) q
    | _ => cases h
  | cell k =>
    unfold lsOf at h
    dsimp only at h
    split at h
    · rename_i ds m
      cases h
      exact k_ixC m (atI_nat e) q
    · cases h
  | exn a => cases h
theorem k_listLs {ps : List PV} (h : lsOf M d = some ys) (e : pures ys = some ps) (q : Q (vL ps) M) : uList [d] M Q := ⟨d, rfl, Or.inr ⟨ys, ps, sq_of_ls h, e, q⟩⟩
theorem tru_ls (h : lsOf M d = some ys) : truD M d = some (!ys.isEmpty) := by
  cases d with
  | v x =>
    cases x with
    | lst xs => cases h; cases xs <;> rfl
    | _ => cases h
  | cell k =>
    unfold lsOf at h
    dsimp only at h
    split at h
    · rename_i ds m
      cases h
      unfold truD
      dsimp only
      rw [m]
    · cases h
  | exn a => cases h
end
theorem pures_0 {M : Mem} : ∀ {ys : List D} {xs : List PV}, ys.mapM (snap M 0) = some xs → pures ys = some xs
  | [], xs, h => by cases h; rfl
  | y :: ys, xs, h => by
    rw [List.mapM_cons] at h
    cases hy : snap M 0 y with
    | none => rw [hy] at h; cases h
    | some x =>
      rw [hy] at h
      cases hz : ys.mapM (snap M 0) with
      | none => rw [hz] at h; cases h
      | some zs =>
        rw [hz] at h
        cases h
        rw [snap_0 hy]
        show (pures ys).map (x :: ·) = _
        rw [pures_0 hz]
        rfl
end Cl
/-! Tables of stocks as data: what the program's defs of tables reckon; promises. -/
namespace Cl
open PySem PySem.Spec PyProof.Rows L2 He ClX
/-! ### reached places -/
/-- steps are -1 or places -/
def okSteps (n : Nat) (rows : List (List Int)) : Prop := ∀ r ∈ rows, ∀ s ∈ r, -1 ≤ s ∧ s < n
/-! ### useful places -/
/-! ### numbers of different things -/
/-! ### classes -/
/-! ### classes merged -/
/-! ### least tables -/
/-! ### promises -/
/-! ### tables in memory -/
end Cl
/-! Machines: what the laws' defs promise. -/
namespace Cl
open PySem PySem.Spec PyProof.Rows L2 He ClX
abbrev tabP (f : List Nat) (rs : List (List Stp)) (es : List (Option (List Nat))) : PV := .tup [.str f, rowsP rs, endsP es]
def g_l_table : DSp := fun ds M Q _ => ∃ (b : Nat) (ls : List Nat) (top : Nat), ds = [.cell b, vS (45 :: ls), vI top] ∧ Bg M b ∧ ls.length ≤ 50 ∧ 1 ≤ top ∧ top ≤ 50 ∧ ∀ f rs es M', OkT ls f rs es 2 → rs.length ≤ top → Bd b M M' → Q (.v (tabP f rs es)) M'
theorem len_g_l_table (ds : List D) (M : Mem) (Q : DQ) (E : DX) (h : g_l_table ds M Q E) : ds.length = 3 := by obtain ⟨_, _, _, rfl, _⟩ := h; rfl
end Cl
namespace Cl
open PySem PySem.Spec PyProof.Rows L2 He ClX
def r_l_table : DS :=
  dSeq (dAsg (dOp uAdd (dC (.int 1)) (dCall g_l_take noX (dCons (dVar 0) (dCons (dVar 2) dNil)))) (hName 3)) (dSeq (dAsg (dLstC dNil) (hName 4)) (dSeq (dAsg (dLstC dNil) (hName 5)) (dSeq (dFor (jRng1 (dCons (dVar 3) dNil)) (hName 6) (dSeq (dAsg (dLstC dNil) (hName 7)) (dSeq (dFor (jRng1 (dCons (dCB uLen (dCons (dVar 1) dNil)) dNil)) (hName 8) (dSeq (dAsg (dOp uSub (dCall g_l_take noX (dCons (dVar 0) (dCons (dOp uAdd (dVar 3) (dC (.int 1))) dNil))) (dC (.int 1))) (hName 9)) (dSeq (dAsg (dCall g_l_word noX (dCons (dVar 0) (dCons (dVar 1) (dCons (dC (.int 2)) dNil)))) (hName 10)) (dDrop (dBm tyL uApp (dVar 7) (dCons (dIf (dTest (dOp uLt (dVar 9) (dC (.int 0)))) (dC .non) (dTup (dCons (dVar 9) (dCons (dVar 10) dNil)))) dNil)))))) (dSeq (dDrop (dBm tyL uApp (dVar 4) (dCons (dFrz (dVar 7)) dNil))) (dSeq (dAsg (dCall g_l_word noX (dCons (dVar 0) (dCons (dVar 1) (dCons (dC (.int 2)) dNil)))) (hName 11)) (dDrop (dBm tyL uApp (dVar 5) (dCons (dIf (dTest (dOp uEq (dCall g_l_take noX (dCons (dVar 0) (dCons (dC (.int 3)) dNil))) (dC (.int 0)))) (dC .non) (dVar 11)) dNil)))))))) (dRet (dTup (dCons (dCall g_l_word noX (dCons (dVar 0) (dCons (dVar 1) (dCons (dC (.int 2)) dNil)))) (dCons (dFrz (dVar 4)) (dCons (dFrz (dVar 5)) dNil))))))))
end Cl
namespace Cl
open PySem PySem.Spec PyProof.Rows L2 He ClX
def r_check_machine (E : DX) : DS :=
  dSeq (dIfS (dOr (dNot (dTru (dVar 2))) (dOr (dTest (dOp uNe (dCB uLen (dCons (dVar 2) dNil)) (dCB uLen (dCons (dVar 3) dNil)))) (dNot (dTru (dMeth gm_is_word [] noX (dVar 0) (dCons (dVar 1) dNil)))))) (dRaise .BadTable E (dCons (dUn uNeg (dC (.int 1))) dNil)) dNext) (dFor (jRng1 (dCons (dCB uLen (dCons (dVar 2) dNil)) dNil)) (hName 4) (dSeq (dIfS (dTest (dOp uNe (dCB uLen (dCons (dOp uIx (dVar 2) (dVar 4)) dNil)) (dCB uLen (dCons (dFld (dVar 0) .signs) dNil)))) (dRaise .BadTable E (dCons (dVar 4) dNil)) dNext) (dSeq (dForG (jLs (dOp uIx (dVar 2) (dVar 4))) (hName 5) (dIfS (dAnd (dTest (dOp uIsNot (dVar 5) (dC .non))) (dNot (dAnd (dTest (dChain uLe uLt (dC (.int 0)) (dOp uIx (dVar 5) (dC (.int 0))) (dCB uLen (dCons (dVar 2) dNil)))) (dTru (dMeth gm_is_word [] noX (dVar 0) (dCons (dOp uIx (dVar 5) (dC (.int 1))) dNil)))))) (dRaise .BadTable E (dCons (dVar 4) dNil)) dNext)) (dIfS (dAnd (dTest (dOp uIsNot (dOp uIx (dVar 3) (dVar 4)) (dC .non))) (dNot (dTru (dMeth gm_is_word [] noX (dVar 0) (dCons (dOp uIx (dVar 3) (dVar 4)) dNil))))) (dRaise .BadTable E (dCons (dVar 4) dNil)) dNext))))
def r_Machine_init (E : DX) : DS :=
  dSeq (dDrop (dCall g_check_machine E (dCons (dVar 1) (dCons (dVar 2) (dCons (dVar 3) (dCons (dVar 4) dNil)))))) (dSeq (dStF (dVar 0) (dVar 1) .alphabet) (dSeq (dStF (dVar 0) (dVar 2) .first) (dSeq (dStF (dVar 0) (dLcG (jLs (dVar 3)) (hName 5) dYes (dCB uList (dCons (dVar 5) dNil)) [5]) .rows) (dStF (dVar 0) (dCB uList (dCons (dVar 4) dNil)) .ends))))
end Cl
/-! Rules: the defs keep their promises. -/
namespace Cl
open PySem PySem.Spec PyProof.Rows L2 He ClX
local macro_rules | `(tactic| walk_at "sz") => `(tactic| (rw [sizeLine_eq]; (try simp only [List.length_append, List.length_cons, List.length_nil, List.length_map, List.length_reverse]); omega))
local macro_rules | `(tactic| walk_at "ds") => `(tactic| repeat (first
  | with_reducible refine k_seq ?_
  | with_reducible refine k_asg ?_
  | with_reducible refine k_var (by with_unfolding_all exact rfl) ?_
  | with_reducible refine k_c ?_
  | with_reducible refine k_op ?_
  | with_reducible refine k_cons ?_
  | with_reducible refine k_nil ?_
  | with_reducible refine k_name ?_
  | with_reducible refine k_ifS ?_
  | with_reducible refine k_test ?_
  | with_reducible refine k_bl ?_
  | with_reducible refine iteT ?_
  | with_reducible refine iteF ?_
  | with_reducible refine k_nf ?_
  | with_reducible refine k_nt ?_
  | with_reducible refine k_ret ?_
  | with_reducible refine k_cb ?_
  | with_reducible refine k_call ?_
  | with_reducible refine k_not ?_
  | with_reducible refine k_and ?_
  | with_reducible refine k_or ?_
  | with_reducible refine k_drop ?_
  | with_reducible refine k_next ?_
  | with_reducible refine k_bm ?_
  | with_reducible refine k_tyS ?_
  | with_reducible refine k_un ?_
  | with_reducible refine k_neg ?_
  | with_reducible refine k_fld ?_
  | with_reducible refine k_meth ?_
  | with_reducible refine k_tru ?_
  | with_reducible refine k_truB ?_
  | with_reducible refine k_truL ?_
  | with_reducible refine k_sl ?_
  | with_reducible refine k_part ?_
  | with_reducible refine k_nopart ?_
  | with_reducible refine k_i ?_
  | with_reducible refine k_s ?_
  | with_reducible refine k_l ?_
  | with_reducible refine k_tu ?_
  | with_reducible refine k_tup ?_
  | with_reducible refine k_lst ?_
  | with_reducible refine k_pu (by with_unfolding_all exact rfl) (by walk_at "sz") ?_
  | with_reducible refine k_lstC ?_
  | with_reducible refine k_lc ?_
  | with_reducible refine k_yes ?_
  | with_reducible refine k_for ?_
  | with_reducible refine k_jstr ?_
  | with_reducible refine k_jlst ?_
  | with_reducible refine k_jtup ?_
  | with_reducible refine k_rng1 ?_
  | with_reducible refine k_if ?_
  | with_reducible refine k_andV ?_
  | with_reducible refine k_orV ?_
  | with_reducible refine k_notV ?_
  | with_reducible refine k_chain ?_
  | with_reducible refine k_raise ?_
  | with_reducible refine k_stf ?_
  | with_reducible refine k_frz ?_
  | with_reducible refine k_frzV _ ?_
  | with_reducible refine k_make ?_
  | with_reducible refine k_try ?_
  | with_reducible refine k_callI ?_
  | with_reducible refine k_callIS ?_
  | with_reducible refine k_xf ?_
  | with_reducible refine k_sub ?_
  | with_reducible refine k_fs ?_
  | with_reducible refine k_js ?_
  | with_reducible refine k_jnil ?_
  | with_reducible refine k_fmt ?_
  | with_reducible refine k_rev ?_
  | with_reducible refine k_lenSet ?_
  | with_reducible refine k_srtSet ?_
  | with_reducible refine k_gcons ?_
  | with_reducible refine k_gnil ?_
  | with_reducible refine k_gtup (by rfl) ?_
  | with_reducible refine k_addI ?_
  | with_reducible refine k_subI ?_
  | with_reducible refine k_lt ?_
  | with_reducible refine k_le ?_
  | with_reducible refine k_gt ?_
  | with_reducible refine k_ge ?_
  | with_reducible refine k_in ?_
  | with_reducible refine k_notin ?_
  | with_reducible refine k_isN ?_
  | with_reducible refine k_isnotN ?_
  | with_reducible refine k_isB ?_
  | with_reducible refine k_isnotB ?_
  | with_reducible refine k_int ?_
  | with_reducible refine k_intB ?_
  | with_reducible refine k_bool ?_
  | with_reducible refine k_neS ?_
  | with_reducible refine k_eqS ?_
  | with_reducible refine k_eq (by with_unfolding_all exact rfl) ?_
  | with_reducible refine k_ne (by with_unfolding_all exact rfl) ?_
  | with_reducible refine k_ixT (by with_unfolding_all exact rfl) ?_
  | with_reducible refine k_ixL (by with_unfolding_all exact rfl) ?_
  | with_reducible refine k_slL ?_
  | with_reducible refine k_lenL ?_
  | with_reducible refine k_lenT ?_
  | with_reducible refine k_listL ?_
  | with_reducible refine k_listT ?_
  | with_reducible refine k_fo (by with_unfolding_all exact rfl) ?_
  | with_reducible refine k_rng2 ?_
  | with_reducible refine k_star ?_
  | with_reducible refine k_makeR ?_
  | with_reducible refine k_cmeth ?_
  | with_reducible refine k_tupOf ?_
  | with_reducible refine k_tupT ?_
  | with_reducible refine k_tupL ?_
  | with_reducible refine k_cls ?_
  | with_reducible refine k_starT ?_
  | with_reducible refine k_starL ?_
  | with_reducible refine k_raise2 ?_
  | with_reducible refine k_raise0 ?_
  | with_reducible refine k_gm1 ?_
  | with_reducible refine k_callSt ?_
  | with_reducible refine k_makeS ?_
  | with_reducible refine k_methS ?_
  | with_reducible refine k_sz (by walk_at "sz") ?_
  | with_reducible refine k_lenS (by walk_at "sz") ?_
  | with_reducible refine k_addS (by walk_at "sz") ?_
  | with_reducible refine k_slS (by walk_at "sz") ?_))
local macro_rules | `(tactic| walk_at "dz") => `(tactic| (walk_at "ds"; repeat (first
  | (with_reducible refine k_ixm0 ?_; walk_at "ds")
  | (with_reducible refine k_ixm1 ?_; walk_at "ds")
  | (with_reducible refine k_ixm2 ?_; walk_at "ds")
  | (with_reducible refine k_ixm3 ?_; walk_at "ds")
  | (with_reducible refine z_eq ?_; walk_at "ds")
  | (with_reducible refine z_neq ?_; walk_at "ds")
  | (with_reducible refine z_F (c := isNon (.v _)) (by with_unfolding_all exact rfl) ?_; walk_at "ds")
  | (with_reducible refine z_nF (c := isNon (.v _)) (by with_unfolding_all exact rfl) ?_; walk_at "ds")
  | (with_reducible refine z_T (c := isNon (.v _)) (by with_unfolding_all exact rfl) ?_; walk_at "ds")
  | (with_reducible refine z_nT (c := isNon (.v _)) (by with_unfolding_all exact rfl) ?_; walk_at "ds")
  | (with_reducible refine z_lnF (by first | omega | (simp; done) | (simp; omega)) ?_; walk_at "ds")
  | (with_reducible refine z_lnT (by first | omega | (simp; done) | (simp; omega)) ?_; walk_at "ds")
  | (with_reducible refine z_nlnF (by first | omega | (simp; done) | (simp; omega)) ?_; walk_at "ds")
  | (with_reducible refine z_nlnT (by first | omega | (simp; done) | (simp; omega)) ?_; walk_at "ds")
  | (with_reducible refine z_lgF (by first | omega | (simp; done) | (simp; omega)) ?_; walk_at "ds")
  | (with_reducible refine z_lgT (by first | omega | (simp; done) | (simp; omega)) ?_; walk_at "ds")
  | (with_reducible refine z_F (by decide) ?_; walk_at "ds")
  | (with_reducible refine z_T (by decide) ?_; walk_at "ds")
  | (with_reducible refine z_nF (by decide) ?_; walk_at "ds")
  | (with_reducible refine z_nT (by decide) ?_; walk_at "ds"))))
end Cl
/-! Rules: the defs keep their promises. -/
namespace Cl
open PySem PySem.Spec PyProof.Rows L2 He ClX
local macro_rules | `(tactic| walk_at "sz") => `(tactic| (rw [sizeLine_eq]; (try simp only [List.length_append, List.length_cons, List.length_nil, List.length_map, List.length_reverse]); omega))
local macro_rules | `(tactic| walk_at "ds") => `(tactic| repeat (first
  | with_reducible refine k_seq ?_
  | with_reducible refine k_asg ?_
  | with_reducible refine k_var (by with_unfolding_all exact rfl) ?_
  | with_reducible refine k_c ?_
  | with_reducible refine k_op ?_
  | with_reducible refine k_cons ?_
  | with_reducible refine k_nil ?_
  | with_reducible refine k_name ?_
  | with_reducible refine k_ifS ?_
  | with_reducible refine k_test ?_
  | with_reducible refine k_bl ?_
  | with_reducible refine iteT ?_
  | with_reducible refine iteF ?_
  | with_reducible refine k_nf ?_
  | with_reducible refine k_nt ?_
  | with_reducible refine k_ret ?_
  | with_reducible refine k_cb ?_
  | with_reducible refine k_call ?_
  | with_reducible refine k_not ?_
  | with_reducible refine k_and ?_
  | with_reducible refine k_or ?_
  | with_reducible refine k_drop ?_
  | with_reducible refine k_next ?_
  | with_reducible refine k_bm ?_
  | with_reducible refine k_tyS ?_
  | with_reducible refine k_un ?_
  | with_reducible refine k_neg ?_
  | with_reducible refine k_fld ?_
  | with_reducible refine k_meth ?_
  | with_reducible refine k_tru ?_
  | with_reducible refine k_truB ?_
  | with_reducible refine k_truL ?_
  | with_reducible refine k_sl ?_
  | with_reducible refine k_part ?_
  | with_reducible refine k_nopart ?_
  | with_reducible refine k_i ?_
  | with_reducible refine k_s ?_
  | with_reducible refine k_l ?_
  | with_reducible refine k_tu ?_
  | with_reducible refine k_tup ?_
  | with_reducible refine k_lst ?_
  | with_reducible refine k_pu (by with_unfolding_all exact rfl) (by walk_at "sz") ?_
  | with_reducible refine k_lstC ?_
  | with_reducible refine k_lc ?_
  | with_reducible refine k_yes ?_
  | with_reducible refine k_for ?_
  | with_reducible refine k_jstr ?_
  | with_reducible refine k_jlst ?_
  | with_reducible refine k_jtup ?_
  | with_reducible refine k_rng1 ?_
  | with_reducible refine k_if ?_
  | with_reducible refine k_andV ?_
  | with_reducible refine k_orV ?_
  | with_reducible refine k_notV ?_
  | with_reducible refine k_chain ?_
  | with_reducible refine k_raise ?_
  | with_reducible refine k_stf ?_
  | with_reducible refine k_frz ?_
  | with_reducible refine k_frzV _ ?_
  | with_reducible refine k_make ?_
  | with_reducible refine k_try ?_
  | with_reducible refine k_callI ?_
  | with_reducible refine k_callIS ?_
  | with_reducible refine k_xf ?_
  | with_reducible refine k_sub ?_
  | with_reducible refine k_fs ?_
  | with_reducible refine k_js ?_
  | with_reducible refine k_jnil ?_
  | with_reducible refine k_fmt ?_
  | with_reducible refine k_rev ?_
  | with_reducible refine k_lenSet ?_
  | with_reducible refine k_srtSet ?_
  | with_reducible refine k_gcons ?_
  | with_reducible refine k_gnil ?_
  | with_reducible refine k_gtup (by rfl) ?_
  | with_reducible refine k_addI ?_
  | with_reducible refine k_subI ?_
  | with_reducible refine k_lt ?_
  | with_reducible refine k_le ?_
  | with_reducible refine k_gt ?_
  | with_reducible refine k_ge ?_
  | with_reducible refine k_in ?_
  | with_reducible refine k_notin ?_
  | with_reducible refine k_isN ?_
  | with_reducible refine k_isnotN ?_
  | with_reducible refine k_isB ?_
  | with_reducible refine k_isnotB ?_
  | with_reducible refine k_int ?_
  | with_reducible refine k_intB ?_
  | with_reducible refine k_bool ?_
  | with_reducible refine k_neS ?_
  | with_reducible refine k_eqS ?_
  | with_reducible refine k_eq (by with_unfolding_all exact rfl) ?_
  | with_reducible refine k_ne (by with_unfolding_all exact rfl) ?_
  | with_reducible refine k_ixT (by with_unfolding_all exact rfl) ?_
  | with_reducible refine k_ixL (by with_unfolding_all exact rfl) ?_
  | with_reducible refine k_slL ?_
  | with_reducible refine k_lenL ?_
  | with_reducible refine k_lenT ?_
  | with_reducible refine k_listL ?_
  | with_reducible refine k_listT ?_
  | with_reducible refine k_fo (by with_unfolding_all exact rfl) ?_
  | with_reducible refine k_rng2 ?_
  | with_reducible refine k_star ?_
  | with_reducible refine k_makeR ?_
  | with_reducible refine k_cmeth ?_
  | with_reducible refine k_tupOf ?_
  | with_reducible refine k_tupT ?_
  | with_reducible refine k_tupL ?_
  | with_reducible refine k_cls ?_
  | with_reducible refine k_starT ?_
  | with_reducible refine k_starL ?_
  | with_reducible refine k_raise2 ?_
  | with_reducible refine k_raise0 ?_
  | with_reducible refine k_gm1 ?_
  | with_reducible refine k_callSt ?_
  | with_reducible refine k_makeS ?_
  | with_reducible refine k_methS ?_
  | with_reducible refine k_sz (by walk_at "sz") ?_
  | with_reducible refine k_lenS (by walk_at "sz") ?_
  | with_reducible refine k_addS (by walk_at "sz") ?_
  | with_reducible refine k_slS (by walk_at "sz") ?_))
local macro_rules | `(tactic| walk_at "dz") => `(tactic| (walk_at "ds"; repeat (first
  | (with_reducible refine k_ixm0 ?_; walk_at "ds")
  | (with_reducible refine k_ixm1 ?_; walk_at "ds")
  | (with_reducible refine k_ixm2 ?_; walk_at "ds")
  | (with_reducible refine k_ixm3 ?_; walk_at "ds")
  | (with_reducible refine z_eq ?_; walk_at "ds")
  | (with_reducible refine z_neq ?_; walk_at "ds")
  | (with_reducible refine z_F (c := isNon (.v _)) (by with_unfolding_all exact rfl) ?_; walk_at "ds")
  | (with_reducible refine z_nF (c := isNon (.v _)) (by with_unfolding_all exact rfl) ?_; walk_at "ds")
  | (with_reducible refine z_T (c := isNon (.v _)) (by with_unfolding_all exact rfl) ?_; walk_at "ds")
  | (with_reducible refine z_nT (c := isNon (.v _)) (by with_unfolding_all exact rfl) ?_; walk_at "ds")
  | (with_reducible refine z_lnF (by first | omega | (simp; done) | (simp; omega)) ?_; walk_at "ds")
  | (with_reducible refine z_lnT (by first | omega | (simp; done) | (simp; omega)) ?_; walk_at "ds")
  | (with_reducible refine z_nlnF (by first | omega | (simp; done) | (simp; omega)) ?_; walk_at "ds")
  | (with_reducible refine z_nlnT (by first | omega | (simp; done) | (simp; omega)) ?_; walk_at "ds")
  | (with_reducible refine z_lgF (by first | omega | (simp; done) | (simp; omega)) ?_; walk_at "ds")
  | (with_reducible refine z_lgT (by first | omega | (simp; done) | (simp; omega)) ?_; walk_at "ds")
  | (with_reducible refine z_F (by decide) ?_; walk_at "ds")
  | (with_reducible refine z_T (by decide) ?_; walk_at "ds")
  | (with_reducible refine z_nF (by decide) ?_; walk_at "ds")
  | (with_reducible refine z_nT (by decide) ?_; walk_at "ds"))))
end Cl
/-! Rules: the defs keep their promises. -/
namespace Cl
open PySem PySem.Spec PyProof.Rows L2 He ClX
local macro_rules | `(tactic| walk_at "sz") => `(tactic| (rw [sizeLine_eq]; (try simp only [List.length_append, List.length_cons, List.length_nil, List.length_map, List.length_reverse]); omega))
local macro_rules | `(tactic| walk_at "ds") => `(tactic| repeat (first
  | with_reducible refine k_seq ?_
  | with_reducible refine k_asg ?_
  | with_reducible refine k_var (by with_unfolding_all exact rfl) ?_
  | with_reducible refine k_c ?_
  | with_reducible refine k_op ?_
  | with_reducible refine k_cons ?_
  | with_reducible refine k_nil ?_
  | with_reducible refine k_name ?_
  | with_reducible refine k_ifS ?_
  | with_reducible refine k_test ?_
  | with_reducible refine k_bl ?_
  | with_reducible refine iteT ?_
  | with_reducible refine iteF ?_
  | with_reducible refine k_nf ?_
  | with_reducible refine k_nt ?_
  | with_reducible refine k_ret ?_
  | with_reducible refine k_cb ?_
  | with_reducible refine k_call ?_
  | with_reducible refine k_not ?_
  | with_reducible refine k_and ?_
  | with_reducible refine k_or ?_
  | with_reducible refine k_drop ?_
  | with_reducible refine k_next ?_
  | with_reducible refine k_bm ?_
  | with_reducible refine k_tyS ?_
  | with_reducible refine k_un ?_
  | with_reducible refine k_neg ?_
  | with_reducible refine k_fld ?_
  | with_reducible refine k_meth ?_
  | with_reducible refine k_tru ?_
  | with_reducible refine k_truB ?_
  | with_reducible refine k_truL ?_
  | with_reducible refine k_sl ?_
  | with_reducible refine k_part ?_
  | with_reducible refine k_nopart ?_
  | with_reducible refine k_i ?_
  | with_reducible refine k_s ?_
  | with_reducible refine k_l ?_
  | with_reducible refine k_tu ?_
  | with_reducible refine k_tup ?_
  | with_reducible refine k_lst ?_
  | with_reducible refine k_pu (by with_unfolding_all exact rfl) (by walk_at "sz") ?_
  | with_reducible refine k_lstC ?_
  | with_reducible refine k_lc ?_
  | with_reducible refine k_yes ?_
  | with_reducible refine k_for ?_
  | with_reducible refine k_jstr ?_
  | with_reducible refine k_jlst ?_
  | with_reducible refine k_jtup ?_
  | with_reducible refine k_rng1 ?_
  | with_reducible refine k_if ?_
  | with_reducible refine k_andV ?_
  | with_reducible refine k_orV ?_
  | with_reducible refine k_notV ?_
  | with_reducible refine k_chain ?_
  | with_reducible refine k_raise ?_
  | with_reducible refine k_stf ?_
  | with_reducible refine k_frz ?_
  | with_reducible refine k_frzV _ ?_
  | with_reducible refine k_make ?_
  | with_reducible refine k_try ?_
  | with_reducible refine k_callI ?_
  | with_reducible refine k_callIS ?_
  | with_reducible refine k_xf ?_
  | with_reducible refine k_sub ?_
  | with_reducible refine k_fs ?_
  | with_reducible refine k_js ?_
  | with_reducible refine k_jnil ?_
  | with_reducible refine k_fmt ?_
  | with_reducible refine k_rev ?_
  | with_reducible refine k_lenSet ?_
  | with_reducible refine k_srtSet ?_
  | with_reducible refine k_gcons ?_
  | with_reducible refine k_gnil ?_
  | with_reducible refine k_gtup (by rfl) ?_
  | with_reducible refine k_addI ?_
  | with_reducible refine k_subI ?_
  | with_reducible refine k_lt ?_
  | with_reducible refine k_le ?_
  | with_reducible refine k_gt ?_
  | with_reducible refine k_ge ?_
  | with_reducible refine k_in ?_
  | with_reducible refine k_notin ?_
  | with_reducible refine k_isN ?_
  | with_reducible refine k_isnotN ?_
  | with_reducible refine k_isB ?_
  | with_reducible refine k_isnotB ?_
  | with_reducible refine k_int ?_
  | with_reducible refine k_intB ?_
  | with_reducible refine k_bool ?_
  | with_reducible refine k_neS ?_
  | with_reducible refine k_eqS ?_
  | with_reducible refine k_eq (by with_unfolding_all exact rfl) ?_
  | with_reducible refine k_ne (by with_unfolding_all exact rfl) ?_
  | with_reducible refine k_ixT (by with_unfolding_all exact rfl) ?_
  | with_reducible refine k_ixL (by with_unfolding_all exact rfl) ?_
  | with_reducible refine k_slL ?_
  | with_reducible refine k_lenL ?_
  | with_reducible refine k_lenT ?_
  | with_reducible refine k_listL ?_
  | with_reducible refine k_listT ?_
  | with_reducible refine k_fo (by with_unfolding_all exact rfl) ?_
  | with_reducible refine k_rng2 ?_
  | with_reducible refine k_star ?_
  | with_reducible refine k_makeR ?_
  | with_reducible refine k_cmeth ?_
  | with_reducible refine k_tupOf ?_
  | with_reducible refine k_tupT ?_
  | with_reducible refine k_tupL ?_
  | with_reducible refine k_cls ?_
  | with_reducible refine k_starT ?_
  | with_reducible refine k_starL ?_
  | with_reducible refine k_raise2 ?_
  | with_reducible refine k_raise0 ?_
  | with_reducible refine k_gm1 ?_
  | with_reducible refine k_callSt ?_
  | with_reducible refine k_makeS ?_
  | with_reducible refine k_methS ?_
  | with_reducible refine k_sz (by walk_at "sz") ?_
  | with_reducible refine k_lenS (by walk_at "sz") ?_
  | with_reducible refine k_addS (by walk_at "sz") ?_
  | with_reducible refine k_slS (by walk_at "sz") ?_))
local macro_rules | `(tactic| walk_at "dz") => `(tactic| (walk_at "ds"; repeat (first
  | (with_reducible refine k_ixm0 ?_; walk_at "ds")
  | (with_reducible refine k_ixm1 ?_; walk_at "ds")
  | (with_reducible refine k_ixm2 ?_; walk_at "ds")
  | (with_reducible refine k_ixm3 ?_; walk_at "ds")
  | (with_reducible refine z_eq ?_; walk_at "ds")
  | (with_reducible refine z_neq ?_; walk_at "ds")
  | (with_reducible refine z_F (c := isNon (.v _)) (by with_unfolding_all exact rfl) ?_; walk_at "ds")
  | (with_reducible refine z_nF (c := isNon (.v _)) (by with_unfolding_all exact rfl) ?_; walk_at "ds")
  | (with_reducible refine z_T (c := isNon (.v _)) (by with_unfolding_all exact rfl) ?_; walk_at "ds")
  | (with_reducible refine z_nT (c := isNon (.v _)) (by with_unfolding_all exact rfl) ?_; walk_at "ds")
  | (with_reducible refine z_lnF (by first | omega | (simp; done) | (simp; omega)) ?_; walk_at "ds")
  | (with_reducible refine z_lnT (by first | omega | (simp; done) | (simp; omega)) ?_; walk_at "ds")
  | (with_reducible refine z_nlnF (by first | omega | (simp; done) | (simp; omega)) ?_; walk_at "ds")
  | (with_reducible refine z_nlnT (by first | omega | (simp; done) | (simp; omega)) ?_; walk_at "ds")
  | (with_reducible refine z_lgF (by first | omega | (simp; done) | (simp; omega)) ?_; walk_at "ds")
  | (with_reducible refine z_lgT (by first | omega | (simp; done) | (simp; omega)) ?_; walk_at "ds")
  | (with_reducible refine z_F (by decide) ?_; walk_at "ds")
  | (with_reducible refine z_T (by decide) ?_; walk_at "ds")
  | (with_reducible refine z_nF (by decide) ?_; walk_at "ds")
  | (with_reducible refine z_nT (by decide) ?_; walk_at "ds"))))
end Cl
/-! Rules written and read: what the defs promise. -/
namespace Cl
open PySem PySem.Spec PyProof.Rows L2 He ClX
/-- the same stage over another alphabet -/
def Stg.re (ls vw : List Nat) : Stg → Stg
  | .drop nm _ a e l => .drop nm (mem ls vw nm) a e l
  | .write x nm _ => .write x nm (mem ls vw nm)
  | .once nm _ => .once nm (mem ls vw nm)
  | .add x => .add x
/-! ### texts of rules -/
/-! ### promises -/
end Cl
/-! Rules: the defs keep their promises. -/
namespace Cl
open PySem PySem.Spec PyProof.Rows L2 He ClX
local macro_rules | `(tactic| walk_at "sz") => `(tactic| (rw [sizeLine_eq]; (try simp only [List.length_append, List.length_cons, List.length_nil, List.length_map, List.length_reverse]); omega))
local macro_rules | `(tactic| walk_at "ds") => `(tactic| repeat (first
  | with_reducible refine k_seq ?_
  | with_reducible refine k_asg ?_
  | with_reducible refine k_var (by with_unfolding_all exact rfl) ?_
  | with_reducible refine k_c ?_
  | with_reducible refine k_op ?_
  | with_reducible refine k_cons ?_
  | with_reducible refine k_nil ?_
  | with_reducible refine k_name ?_
  | with_reducible refine k_ifS ?_
  | with_reducible refine k_test ?_
  | with_reducible refine k_bl ?_
  | with_reducible refine iteT ?_
  | with_reducible refine iteF ?_
  | with_reducible refine k_nf ?_
  | with_reducible refine k_nt ?_
  | with_reducible refine k_ret ?_
  | with_reducible refine k_cb ?_
  | with_reducible refine k_call ?_
  | with_reducible refine k_not ?_
  | with_reducible refine k_and ?_
  | with_reducible refine k_or ?_
  | with_reducible refine k_drop ?_
  | with_reducible refine k_next ?_
  | with_reducible refine k_bm ?_
  | with_reducible refine k_tyS ?_
  | with_reducible refine k_un ?_
  | with_reducible refine k_neg ?_
  | with_reducible refine k_fld ?_
  | with_reducible refine k_meth ?_
  | with_reducible refine k_tru ?_
  | with_reducible refine k_truB ?_
  | with_reducible refine k_truL ?_
  | with_reducible refine k_sl ?_
  | with_reducible refine k_part ?_
  | with_reducible refine k_nopart ?_
  | with_reducible refine k_i ?_
  | with_reducible refine k_s ?_
  | with_reducible refine k_l ?_
  | with_reducible refine k_tu ?_
  | with_reducible refine k_tup ?_
  | with_reducible refine k_lst ?_
  | with_reducible refine k_pu (by with_unfolding_all exact rfl) (by walk_at "sz") ?_
  | with_reducible refine k_lstC ?_
  | with_reducible refine k_lc ?_
  | with_reducible refine k_yes ?_
  | with_reducible refine k_for ?_
  | with_reducible refine k_jstr ?_
  | with_reducible refine k_jlst ?_
  | with_reducible refine k_jtup ?_
  | with_reducible refine k_rng1 ?_
  | with_reducible refine k_if ?_
  | with_reducible refine k_andV ?_
  | with_reducible refine k_orV ?_
  | with_reducible refine k_notV ?_
  | with_reducible refine k_chain ?_
  | with_reducible refine k_raise ?_
  | with_reducible refine k_stf ?_
  | with_reducible refine k_frz ?_
  | with_reducible refine k_frzV _ ?_
  | with_reducible refine k_make ?_
  | with_reducible refine k_try ?_
  | with_reducible refine k_callI ?_
  | with_reducible refine k_callIS ?_
  | with_reducible refine k_xf ?_
  | with_reducible refine k_sub ?_
  | with_reducible refine k_fs ?_
  | with_reducible refine k_js ?_
  | with_reducible refine k_jnil ?_
  | with_reducible refine k_fmt ?_
  | with_reducible refine k_rev ?_
  | with_reducible refine k_lenSet ?_
  | with_reducible refine k_srtSet ?_
  | with_reducible refine k_gcons ?_
  | with_reducible refine k_gnil ?_
  | with_reducible refine k_gtup (by rfl) ?_
  | with_reducible refine k_addI ?_
  | with_reducible refine k_subI ?_
  | with_reducible refine k_lt ?_
  | with_reducible refine k_le ?_
  | with_reducible refine k_gt ?_
  | with_reducible refine k_ge ?_
  | with_reducible refine k_in ?_
  | with_reducible refine k_notin ?_
  | with_reducible refine k_isN ?_
  | with_reducible refine k_isnotN ?_
  | with_reducible refine k_isB ?_
  | with_reducible refine k_isnotB ?_
  | with_reducible refine k_int ?_
  | with_reducible refine k_intB ?_
  | with_reducible refine k_bool ?_
  | with_reducible refine k_neS ?_
  | with_reducible refine k_eqS ?_
  | with_reducible refine k_eq (by with_unfolding_all exact rfl) ?_
  | with_reducible refine k_ne (by with_unfolding_all exact rfl) ?_
  | with_reducible refine k_ixT (by with_unfolding_all exact rfl) ?_
  | with_reducible refine k_ixL (by with_unfolding_all exact rfl) ?_
  | with_reducible refine k_slL ?_
  | with_reducible refine k_lenL ?_
  | with_reducible refine k_lenT ?_
  | with_reducible refine k_listL ?_
  | with_reducible refine k_listT ?_
  | with_reducible refine k_fo (by with_unfolding_all exact rfl) ?_
  | with_reducible refine k_rng2 ?_
  | with_reducible refine k_star ?_
  | with_reducible refine k_makeR ?_
  | with_reducible refine k_cmeth ?_
  | with_reducible refine k_tupOf ?_
  | with_reducible refine k_tupT ?_
  | with_reducible refine k_tupL ?_
  | with_reducible refine k_cls ?_
  | with_reducible refine k_starT ?_
  | with_reducible refine k_starL ?_
  | with_reducible refine k_raise2 ?_
  | with_reducible refine k_raise0 ?_
  | with_reducible refine k_gm1 ?_
  | with_reducible refine k_callSt ?_
  | with_reducible refine k_makeS ?_
  | with_reducible refine k_methS ?_
  | with_reducible refine k_sz (by walk_at "sz") ?_
  | with_reducible refine k_lenS (by walk_at "sz") ?_
  | with_reducible refine k_addS (by walk_at "sz") ?_
  | with_reducible refine k_slS (by walk_at "sz") ?_))
local macro_rules | `(tactic| walk_at "dz") => `(tactic| (walk_at "ds"; repeat (first
  | (with_reducible refine k_ixm0 ?_; walk_at "ds")
  | (with_reducible refine k_ixm1 ?_; walk_at "ds")
  | (with_reducible refine k_ixm2 ?_; walk_at "ds")
  | (with_reducible refine k_ixm3 ?_; walk_at "ds")
  | (with_reducible refine z_eq ?_; walk_at "ds")
  | (with_reducible refine z_neq ?_; walk_at "ds")
  | (with_reducible refine z_F (c := isNon (.v _)) (by with_unfolding_all exact rfl) ?_; walk_at "ds")
  | (with_reducible refine z_nF (c := isNon (.v _)) (by with_unfolding_all exact rfl) ?_; walk_at "ds")
  | (with_reducible refine z_T (c := isNon (.v _)) (by with_unfolding_all exact rfl) ?_; walk_at "ds")
  | (with_reducible refine z_nT (c := isNon (.v _)) (by with_unfolding_all exact rfl) ?_; walk_at "ds")
  | (with_reducible refine z_lnF (by first | omega | (simp; done) | (simp; omega)) ?_; walk_at "ds")
  | (with_reducible refine z_lnT (by first | omega | (simp; done) | (simp; omega)) ?_; walk_at "ds")
  | (with_reducible refine z_nlnF (by first | omega | (simp; done) | (simp; omega)) ?_; walk_at "ds")
  | (with_reducible refine z_nlnT (by first | omega | (simp; done) | (simp; omega)) ?_; walk_at "ds")
  | (with_reducible refine z_lgF (by first | omega | (simp; done) | (simp; omega)) ?_; walk_at "ds")
  | (with_reducible refine z_lgT (by first | omega | (simp; done) | (simp; omega)) ?_; walk_at "ds")
  | (with_reducible refine z_F (by decide) ?_; walk_at "ds")
  | (with_reducible refine z_T (by decide) ?_; walk_at "ds")
  | (with_reducible refine z_nF (by decide) ?_; walk_at "ds")
  | (with_reducible refine z_nT (by decide) ?_; walk_at "ds"))))
end Cl
/-! Rules: the defs keep their promises. -/
namespace Cl
open PySem PySem.Spec PyProof.Rows L2 He ClX
local macro_rules | `(tactic| walk_at "sz") => `(tactic| (rw [sizeLine_eq]; (try simp only [List.length_append, List.length_cons, List.length_nil, List.length_map, List.length_reverse]); omega))
local macro_rules | `(tactic| walk_at "ds") => `(tactic| repeat (first
  | with_reducible refine k_seq ?_
  | with_reducible refine k_asg ?_
  | with_reducible refine k_var (by with_unfolding_all exact rfl) ?_
  | with_reducible refine k_c ?_
  | with_reducible refine k_op ?_
  | with_reducible refine k_cons ?_
  | with_reducible refine k_nil ?_
  | with_reducible refine k_name ?_
  | with_reducible refine k_ifS ?_
  | with_reducible refine k_test ?_
  | with_reducible refine k_bl ?_
  | with_reducible refine iteT ?_
  | with_reducible refine iteF ?_
  | with_reducible refine k_nf ?_
  | with_reducible refine k_nt ?_
  | with_reducible refine k_ret ?_
  | with_reducible refine k_cb ?_
  | with_reducible refine k_call ?_
  | with_reducible refine k_not ?_
  | with_reducible refine k_and ?_
  | with_reducible refine k_or ?_
  | with_reducible refine k_drop ?_
  | with_reducible refine k_next ?_
  | with_reducible refine k_bm ?_
  | with_reducible refine k_tyS ?_
  | with_reducible refine k_un ?_
  | with_reducible refine k_neg ?_
  | with_reducible refine k_fld ?_
  | with_reducible refine k_meth ?_
  | with_reducible refine k_tru ?_
  | with_reducible refine k_truB ?_
  | with_reducible refine k_truL ?_
  | with_reducible refine k_sl ?_
  | with_reducible refine k_part ?_
  | with_reducible refine k_nopart ?_
  | with_reducible refine k_i ?_
  | with_reducible refine k_s ?_
  | with_reducible refine k_l ?_
  | with_reducible refine k_tu ?_
  | with_reducible refine k_tup ?_
  | with_reducible refine k_lst ?_
  | with_reducible refine k_pu (by with_unfolding_all exact rfl) (by walk_at "sz") ?_
  | with_reducible refine k_lstC ?_
  | with_reducible refine k_lc ?_
  | with_reducible refine k_yes ?_
  | with_reducible refine k_for ?_
  | with_reducible refine k_jstr ?_
  | with_reducible refine k_jlst ?_
  | with_reducible refine k_jtup ?_
  | with_reducible refine k_rng1 ?_
  | with_reducible refine k_if ?_
  | with_reducible refine k_andV ?_
  | with_reducible refine k_orV ?_
  | with_reducible refine k_notV ?_
  | with_reducible refine k_chain ?_
  | with_reducible refine k_raise ?_
  | with_reducible refine k_stf ?_
  | with_reducible refine k_frz ?_
  | with_reducible refine k_frzV _ ?_
  | with_reducible refine k_make ?_
  | with_reducible refine k_try ?_
  | with_reducible refine k_callI ?_
  | with_reducible refine k_callIS ?_
  | with_reducible refine k_xf ?_
  | with_reducible refine k_sub ?_
  | with_reducible refine k_fs ?_
  | with_reducible refine k_js ?_
  | with_reducible refine k_jnil ?_
  | with_reducible refine k_fmt ?_
  | with_reducible refine k_rev ?_
  | with_reducible refine k_lenSet ?_
  | with_reducible refine k_srtSet ?_
  | with_reducible refine k_gcons ?_
  | with_reducible refine k_gnil ?_
  | with_reducible refine k_gtup (by rfl) ?_
  | with_reducible refine k_addI ?_
  | with_reducible refine k_subI ?_
  | with_reducible refine k_lt ?_
  | with_reducible refine k_le ?_
  | with_reducible refine k_gt ?_
  | with_reducible refine k_ge ?_
  | with_reducible refine k_in ?_
  | with_reducible refine k_notin ?_
  | with_reducible refine k_isN ?_
  | with_reducible refine k_isnotN ?_
  | with_reducible refine k_isB ?_
  | with_reducible refine k_isnotB ?_
  | with_reducible refine k_int ?_
  | with_reducible refine k_intB ?_
  | with_reducible refine k_bool ?_
  | with_reducible refine k_neS ?_
  | with_reducible refine k_eqS ?_
  | with_reducible refine k_eq (by with_unfolding_all exact rfl) ?_
  | with_reducible refine k_ne (by with_unfolding_all exact rfl) ?_
  | with_reducible refine k_ixT (by with_unfolding_all exact rfl) ?_
  | with_reducible refine k_ixL (by with_unfolding_all exact rfl) ?_
  | with_reducible refine k_slL ?_
  | with_reducible refine k_lenL ?_
  | with_reducible refine k_lenT ?_
  | with_reducible refine k_listL ?_
  | with_reducible refine k_listT ?_
  | with_reducible refine k_fo (by with_unfolding_all exact rfl) ?_
  | with_reducible refine k_rng2 ?_
  | with_reducible refine k_star ?_
  | with_reducible refine k_makeR ?_
  | with_reducible refine k_cmeth ?_
  | with_reducible refine k_tupOf ?_
  | with_reducible refine k_tupT ?_
  | with_reducible refine k_tupL ?_
  | with_reducible refine k_cls ?_
  | with_reducible refine k_starT ?_
  | with_reducible refine k_starL ?_
  | with_reducible refine k_raise2 ?_
  | with_reducible refine k_raise0 ?_
  | with_reducible refine k_gm1 ?_
  | with_reducible refine k_callSt ?_
  | with_reducible refine k_makeS ?_
  | with_reducible refine k_methS ?_
  | with_reducible refine k_sz (by walk_at "sz") ?_
  | with_reducible refine k_lenS (by walk_at "sz") ?_
  | with_reducible refine k_addS (by walk_at "sz") ?_
  | with_reducible refine k_slS (by walk_at "sz") ?_))
local macro_rules | `(tactic| walk_at "dz") => `(tactic| (walk_at "ds"; repeat (first
  | (with_reducible refine k_ixm0 ?_; walk_at "ds")
  | (with_reducible refine k_ixm1 ?_; walk_at "ds")
  | (with_reducible refine k_ixm2 ?_; walk_at "ds")
  | (with_reducible refine k_ixm3 ?_; walk_at "ds")
  | (with_reducible refine z_eq ?_; walk_at "ds")
  | (with_reducible refine z_neq ?_; walk_at "ds")
  | (with_reducible refine z_F (c := isNon (.v _)) (by with_unfolding_all exact rfl) ?_; walk_at "ds")
  | (with_reducible refine z_nF (c := isNon (.v _)) (by with_unfolding_all exact rfl) ?_; walk_at "ds")
  | (with_reducible refine z_T (c := isNon (.v _)) (by with_unfolding_all exact rfl) ?_; walk_at "ds")
  | (with_reducible refine z_nT (c := isNon (.v _)) (by with_unfolding_all exact rfl) ?_; walk_at "ds")
  | (with_reducible refine z_lnF (by first | omega | (simp; done) | (simp; omega)) ?_; walk_at "ds")
  | (with_reducible refine z_lnT (by first | omega | (simp; done) | (simp; omega)) ?_; walk_at "ds")
  | (with_reducible refine z_nlnF (by first | omega | (simp; done) | (simp; omega)) ?_; walk_at "ds")
  | (with_reducible refine z_nlnT (by first | omega | (simp; done) | (simp; omega)) ?_; walk_at "ds")
  | (with_reducible refine z_lgF (by first | omega | (simp; done) | (simp; omega)) ?_; walk_at "ds")
  | (with_reducible refine z_lgT (by first | omega | (simp; done) | (simp; omega)) ?_; walk_at "ds")
  | (with_reducible refine z_F (by decide) ?_; walk_at "ds")
  | (with_reducible refine z_T (by decide) ?_; walk_at "ds")
  | (with_reducible refine z_nF (by decide) ?_; walk_at "ds")
  | (with_reducible refine z_nT (by decide) ?_; walk_at "ds"))))
end Cl
/-! Rules: the defs keep their promises. -/
namespace Cl
open PySem PySem.Spec PyProof.Rows L2 He ClX
local macro_rules | `(tactic| walk_at "sz") => `(tactic| (rw [sizeLine_eq]; (try simp only [List.length_append, List.length_cons, List.length_nil, List.length_map, List.length_reverse]); omega))
local macro_rules | `(tactic| walk_at "ds") => `(tactic| repeat (first
  | with_reducible refine k_seq ?_
  | with_reducible refine k_asg ?_
  | with_reducible refine k_var (by with_unfolding_all exact rfl) ?_
  | with_reducible refine k_c ?_
  | with_reducible refine k_op ?_
  | with_reducible refine k_cons ?_
  | with_reducible refine k_nil ?_
  | with_reducible refine k_name ?_
  | with_reducible refine k_ifS ?_
  | with_reducible refine k_test ?_
  | with_reducible refine k_bl ?_
  | with_reducible refine iteT ?_
  | with_reducible refine iteF ?_
  | with_reducible refine k_nf ?_
  | with_reducible refine k_nt ?_
  | with_reducible refine k_ret ?_
  | with_reducible refine k_cb ?_
  | with_reducible refine k_call ?_
  | with_reducible refine k_not ?_
  | with_reducible refine k_and ?_
  | with_reducible refine k_or ?_
  | with_reducible refine k_drop ?_
  | with_reducible refine k_next ?_
  | with_reducible refine k_bm ?_
  | with_reducible refine k_tyS ?_
  | with_reducible refine k_un ?_
  | with_reducible refine k_neg ?_
  | with_reducible refine k_fld ?_
  | with_reducible refine k_meth ?_
  | with_reducible refine k_tru ?_
  | with_reducible refine k_truB ?_
  | with_reducible refine k_truL ?_
  | with_reducible refine k_sl ?_
  | with_reducible refine k_part ?_
  | with_reducible refine k_nopart ?_
  | with_reducible refine k_i ?_
  | with_reducible refine k_s ?_
  | with_reducible refine k_l ?_
  | with_reducible refine k_tu ?_
  | with_reducible refine k_tup ?_
  | with_reducible refine k_lst ?_
  | with_reducible refine k_pu (by with_unfolding_all exact rfl) (by walk_at "sz") ?_
  | with_reducible refine k_lstC ?_
  | with_reducible refine k_lc ?_
  | with_reducible refine k_yes ?_
  | with_reducible refine k_for ?_
  | with_reducible refine k_jstr ?_
  | with_reducible refine k_jlst ?_
  | with_reducible refine k_jtup ?_
  | with_reducible refine k_rng1 ?_
  | with_reducible refine k_if ?_
  | with_reducible refine k_andV ?_
  | with_reducible refine k_orV ?_
  | with_reducible refine k_notV ?_
  | with_reducible refine k_chain ?_
  | with_reducible refine k_raise ?_
  | with_reducible refine k_stf ?_
  | with_reducible refine k_frz ?_
  | with_reducible refine k_frzV _ ?_
  | with_reducible refine k_make ?_
  | with_reducible refine k_try ?_
  | with_reducible refine k_callI ?_
  | with_reducible refine k_callIS ?_
  | with_reducible refine k_xf ?_
  | with_reducible refine k_sub ?_
  | with_reducible refine k_fs ?_
  | with_reducible refine k_js ?_
  | with_reducible refine k_jnil ?_
  | with_reducible refine k_fmt ?_
  | with_reducible refine k_rev ?_
  | with_reducible refine k_lenSet ?_
  | with_reducible refine k_srtSet ?_
  | with_reducible refine k_gcons ?_
  | with_reducible refine k_gnil ?_
  | with_reducible refine k_gtup (by rfl) ?_
  | with_reducible refine k_addI ?_
  | with_reducible refine k_subI ?_
  | with_reducible refine k_lt ?_
  | with_reducible refine k_le ?_
  | with_reducible refine k_gt ?_
  | with_reducible refine k_ge ?_
  | with_reducible refine k_in ?_
  | with_reducible refine k_notin ?_
  | with_reducible refine k_isN ?_
  | with_reducible refine k_isnotN ?_
  | with_reducible refine k_isB ?_
  | with_reducible refine k_isnotB ?_
  | with_reducible refine k_int ?_
  | with_reducible refine k_intB ?_
  | with_reducible refine k_bool ?_
  | with_reducible refine k_neS ?_
  | with_reducible refine k_eqS ?_
  | with_reducible refine k_eq (by with_unfolding_all exact rfl) ?_
  | with_reducible refine k_ne (by with_unfolding_all exact rfl) ?_
  | with_reducible refine k_ixT (by with_unfolding_all exact rfl) ?_
  | with_reducible refine k_ixL (by with_unfolding_all exact rfl) ?_
  | with_reducible refine k_slL ?_
  | with_reducible refine k_lenL ?_
  | with_reducible refine k_lenT ?_
  | with_reducible refine k_listL ?_
  | with_reducible refine k_listT ?_
  | with_reducible refine k_fo (by with_unfolding_all exact rfl) ?_
  | with_reducible refine k_rng2 ?_
  | with_reducible refine k_star ?_
  | with_reducible refine k_makeR ?_
  | with_reducible refine k_cmeth ?_
  | with_reducible refine k_tupOf ?_
  | with_reducible refine k_tupT ?_
  | with_reducible refine k_tupL ?_
  | with_reducible refine k_cls ?_
  | with_reducible refine k_starT ?_
  | with_reducible refine k_starL ?_
  | with_reducible refine k_raise2 ?_
  | with_reducible refine k_raise0 ?_
  | with_reducible refine k_gm1 ?_
  | with_reducible refine k_callSt ?_
  | with_reducible refine k_makeS ?_
  | with_reducible refine k_methS ?_
  | with_reducible refine k_sz (by walk_at "sz") ?_
  | with_reducible refine k_lenS (by walk_at "sz") ?_
  | with_reducible refine k_addS (by walk_at "sz") ?_
  | with_reducible refine k_slS (by walk_at "sz") ?_))
local macro_rules | `(tactic| walk_at "dz") => `(tactic| (walk_at "ds"; repeat (first
  | (with_reducible refine k_ixm0 ?_; walk_at "ds")
  | (with_reducible refine k_ixm1 ?_; walk_at "ds")
  | (with_reducible refine k_ixm2 ?_; walk_at "ds")
  | (with_reducible refine k_ixm3 ?_; walk_at "ds")
  | (with_reducible refine z_eq ?_; walk_at "ds")
  | (with_reducible refine z_neq ?_; walk_at "ds")
  | (with_reducible refine z_F (c := isNon (.v _)) (by with_unfolding_all exact rfl) ?_; walk_at "ds")
  | (with_reducible refine z_nF (c := isNon (.v _)) (by with_unfolding_all exact rfl) ?_; walk_at "ds")
  | (with_reducible refine z_T (c := isNon (.v _)) (by with_unfolding_all exact rfl) ?_; walk_at "ds")
  | (with_reducible refine z_nT (c := isNon (.v _)) (by with_unfolding_all exact rfl) ?_; walk_at "ds")
  | (with_reducible refine z_lnF (by first | omega | (simp; done) | (simp; omega)) ?_; walk_at "ds")
  | (with_reducible refine z_lnT (by first | omega | (simp; done) | (simp; omega)) ?_; walk_at "ds")
  | (with_reducible refine z_nlnF (by first | omega | (simp; done) | (simp; omega)) ?_; walk_at "ds")
  | (with_reducible refine z_nlnT (by first | omega | (simp; done) | (simp; omega)) ?_; walk_at "ds")
  | (with_reducible refine z_lgF (by first | omega | (simp; done) | (simp; omega)) ?_; walk_at "ds")
  | (with_reducible refine z_lgT (by first | omega | (simp; done) | (simp; omega)) ?_; walk_at "ds")
  | (with_reducible refine z_F (by decide) ?_; walk_at "ds")
  | (with_reducible refine z_T (by decide) ?_; walk_at "ds")
  | (with_reducible refine z_nF (by decide) ?_; walk_at "ds")
  | (with_reducible refine z_nT (by decide) ?_; walk_at "ds"))))
end Cl
/-! Machines: the defs keep their promises. -/
namespace Cl
open PySem PySem.Spec PyProof.Rows L2 He ClX
local macro_rules | `(tactic| walk_at "sz") => `(tactic| (rw [sizeLine_eq]; (try simp only [List.length_append, List.length_cons, List.length_nil, List.length_map, List.length_reverse]); omega))
local macro_rules | `(tactic| walk_at "ds") => `(tactic| repeat (first
  | with_reducible refine k_seq ?_
  | with_reducible refine k_asg ?_
  | with_reducible refine k_var (by with_unfolding_all exact rfl) ?_
  | with_reducible refine k_c ?_
  | with_reducible refine k_op ?_
  | with_reducible refine k_cons ?_
  | with_reducible refine k_nil ?_
  | with_reducible refine k_name ?_
  | with_reducible refine k_ifS ?_
  | with_reducible refine k_test ?_
  | with_reducible refine k_bl ?_
  | with_reducible refine iteT ?_
  | with_reducible refine iteF ?_
  | with_reducible refine k_nf ?_
  | with_reducible refine k_nt ?_
  | with_reducible refine k_ret ?_
  | with_reducible refine k_cb ?_
  | with_reducible refine k_call ?_
  | with_reducible refine k_not ?_
  | with_reducible refine k_and ?_
  | with_reducible refine k_or ?_
  | with_reducible refine k_drop ?_
  | with_reducible refine k_next ?_
  | with_reducible refine k_bm ?_
  | with_reducible refine k_tyS ?_
  | with_reducible refine k_un ?_
  | with_reducible refine k_neg ?_
  | with_reducible refine k_fld ?_
  | with_reducible refine k_meth ?_
  | with_reducible refine k_tru ?_
  | with_reducible refine k_truB ?_
  | with_reducible refine k_truL ?_
  | with_reducible refine k_sl ?_
  | with_reducible refine k_part ?_
  | with_reducible refine k_nopart ?_
  | with_reducible refine k_i ?_
  | with_reducible refine k_s ?_
  | with_reducible refine k_l ?_
  | with_reducible refine k_tu ?_
  | with_reducible refine k_tup ?_
  | with_reducible refine k_lst ?_
  | with_reducible refine k_pu (by with_unfolding_all exact rfl) (by walk_at "sz") ?_
  | with_reducible refine k_lstC ?_
  | with_reducible refine k_lc ?_
  | with_reducible refine k_yes ?_
  | with_reducible refine k_for ?_
  | with_reducible refine k_jstr ?_
  | with_reducible refine k_jlst ?_
  | with_reducible refine k_jtup ?_
  | with_reducible refine k_rng1 ?_
  | with_reducible refine k_if ?_
  | with_reducible refine k_andV ?_
  | with_reducible refine k_orV ?_
  | with_reducible refine k_notV ?_
  | with_reducible refine k_chain ?_
  | with_reducible refine k_raise ?_
  | with_reducible refine k_stf ?_
  | with_reducible refine k_frz ?_
  | with_reducible refine k_frzV _ ?_
  | with_reducible refine k_make ?_
  | with_reducible refine k_try ?_
  | with_reducible refine k_callI ?_
  | with_reducible refine k_callIS ?_
  | with_reducible refine k_xf ?_
  | with_reducible refine k_sub ?_
  | with_reducible refine k_fs ?_
  | with_reducible refine k_js ?_
  | with_reducible refine k_jnil ?_
  | with_reducible refine k_fmt ?_
  | with_reducible refine k_rev ?_
  | with_reducible refine k_lenSet ?_
  | with_reducible refine k_srtSet ?_
  | with_reducible refine k_gcons ?_
  | with_reducible refine k_gnil ?_
  | with_reducible refine k_gtup (by rfl) ?_
  | with_reducible refine k_addI ?_
  | with_reducible refine k_subI ?_
  | with_reducible refine k_lt ?_
  | with_reducible refine k_le ?_
  | with_reducible refine k_gt ?_
  | with_reducible refine k_ge ?_
  | with_reducible refine k_in ?_
  | with_reducible refine k_notin ?_
  | with_reducible refine k_isN ?_
  | with_reducible refine k_isnotN ?_
  | with_reducible refine k_isB ?_
  | with_reducible refine k_isnotB ?_
  | with_reducible refine k_int ?_
  | with_reducible refine k_intB ?_
  | with_reducible refine k_bool ?_
  | with_reducible refine k_neS ?_
  | with_reducible refine k_eqS ?_
  | with_reducible refine k_eq (by with_unfolding_all exact rfl) ?_
  | with_reducible refine k_ne (by with_unfolding_all exact rfl) ?_
  | with_reducible refine k_ixT (by with_unfolding_all exact rfl) ?_
  | with_reducible refine k_ixL (by with_unfolding_all exact rfl) ?_
  | with_reducible refine k_slL ?_
  | with_reducible refine k_lenL ?_
  | with_reducible refine k_lenT ?_
  | with_reducible refine k_listL ?_
  | with_reducible refine k_listT ?_
  | with_reducible refine k_fo (by with_unfolding_all exact rfl) ?_
  | with_reducible refine k_rng2 ?_
  | with_reducible refine k_star ?_
  | with_reducible refine k_makeR ?_
  | with_reducible refine k_cmeth ?_
  | with_reducible refine k_tupOf ?_
  | with_reducible refine k_tupT ?_
  | with_reducible refine k_tupL ?_
  | with_reducible refine k_cls ?_
  | with_reducible refine k_starT ?_
  | with_reducible refine k_starL ?_
  | with_reducible refine k_raise2 ?_
  | with_reducible refine k_raise0 ?_
  | with_reducible refine k_forG ?_
  | with_reducible refine k_jls ?_
  | with_reducible refine k_lcG ?_
  | with_reducible refine k_lcCG ?_
  | with_reducible refine k_gm1 ?_
  | with_reducible refine k_callSt ?_
  | with_reducible refine k_makeS ?_
  | with_reducible refine k_methS ?_
  | with_reducible refine k_sz (by walk_at "sz") ?_
  | with_reducible refine k_lenS (by walk_at "sz") ?_
  | with_reducible refine k_addS (by walk_at "sz") ?_
  | with_reducible refine k_slS (by walk_at "sz") ?_))
local macro_rules | `(tactic| walk_at "dz") => `(tactic| (walk_at "ds"; repeat (first
  | (with_reducible refine k_ixm0 ?_; walk_at "ds")
  | (with_reducible refine k_ixm1 ?_; walk_at "ds")
  | (with_reducible refine k_ixm2 ?_; walk_at "ds")
  | (with_reducible refine k_ixm3 ?_; walk_at "ds")
  | (with_reducible refine z_eq ?_; walk_at "ds")
  | (with_reducible refine z_neq ?_; walk_at "ds")
  | (with_reducible refine z_F (c := isNon (.v _)) (by with_unfolding_all exact rfl) ?_; walk_at "ds")
  | (with_reducible refine z_nF (c := isNon (.v _)) (by with_unfolding_all exact rfl) ?_; walk_at "ds")
  | (with_reducible refine z_T (c := isNon (.v _)) (by with_unfolding_all exact rfl) ?_; walk_at "ds")
  | (with_reducible refine z_nT (c := isNon (.v _)) (by with_unfolding_all exact rfl) ?_; walk_at "ds")
  | (with_reducible refine z_lnF (by first | omega | (simp; done) | (simp; omega)) ?_; walk_at "ds")
  | (with_reducible refine z_lnT (by first | omega | (simp; done) | (simp; omega)) ?_; walk_at "ds")
  | (with_reducible refine z_nlnF (by first | omega | (simp; done) | (simp; omega)) ?_; walk_at "ds")
  | (with_reducible refine z_nlnT (by first | omega | (simp; done) | (simp; omega)) ?_; walk_at "ds")
  | (with_reducible refine z_lgF (by first | omega | (simp; done) | (simp; omega)) ?_; walk_at "ds")
  | (with_reducible refine z_lgT (by first | omega | (simp; done) | (simp; omega)) ?_; walk_at "ds")
  | (with_reducible refine z_F (by decide) ?_; walk_at "ds")
  | (with_reducible refine z_T (by decide) ?_; walk_at "ds")
  | (with_reducible refine z_nF (by decide) ?_; walk_at "ds")
  | (with_reducible refine z_nT (by decide) ?_; walk_at "ds"))))
theorem k_truLs {M : Mem} {d : D} {ys : List D} {p : Bool → Prop} (h : lsOf M d = some ys) (q : p (!ys.isEmpty)) : ∃ k, truD M d = some k ∧ (∀ z, d = vS z → z.length ≤ sizeLine) ∧ p k := ⟨_, tru_ls h, (fun z e => by subst e; cases h), q⟩
theorem fld_sg {ls vw : List Nat} {M : Mem} {p : D → Prop} (h : p (vS (45 :: ls))) : ∃ k ys y, obOf M (.v (alph ls vw)) = some (k, ys) ∧ ys[k.ix .signs]? = some y ∧ p y := ⟨_, _, _, rfl, rfl, h⟩
theorem chk_first {ls f : List Nat} {rs : List (List Stp)} {es : List (Option (List Nat))} (h : rs = [] ∨ rs.length ≠ es.length ∨ isW ls f = false) : chkM ls f rs es = some (-1) := by unfold chkM; rw [if_pos h]
theorem chk_at {ls f : List Nat} {rs : List (List Stp)} {es : List (Option (List Nat))} (h : ¬ (rs = [] ∨ rs.length ≠ es.length ∨ isW ls f = false)) {i : Nat} (hi : i < rs.length) (hb : badAt ls rs es i = true) (hp : ∀ j < i, badAt ls rs es j = false) : chkM ls f rs es = some (i : Int) := by
  unfold chkM
  rw [if_neg h]
  have : (List.range rs.length).find? (badAt ls rs es) = some i := by
    rw [List.find?_range_eq_some]
    exact ⟨hb, by simpa using hi, fun j hj => by rw [hp j hj]; rfl⟩
  rw [this]
  rfl
theorem chk_ok {ls f : List Nat} {rs : List (List Stp)} {es : List (Option (List Nat))} (h : ¬ (rs = [] ∨ rs.length ≠ es.length ∨ isW ls f = false)) (hp : ∀ j < rs.length, badAt ls rs es j = false) : chkM ls f rs es = none := by
  unfold chkM
  rw [if_neg h]
  have : (List.range rs.length).find? (badAt ls rs es) = none := by
    rw [List.find?_eq_none]
    intro j hj
    rw [hp j (List.mem_range.mp hj)]
    simp
  rw [this]
  rfl
theorem ref_check_machine (ds : List D) (M : Mem) (Q : DQ) (E : DX) (h : g_check_machine ds M Q E) : r_check_machine (xExit M E) { nx := fun _ M' => qExit M Q (.v .non) M', rt := qExit M Q } (startD 6 ds) M := by
  obtain ⟨ls, vw, f, rs, es, d, e, rfl, hd, he, hl, tb, kq, kE⟩ := h
  show r_check_machine (xExit M E) _ [some (.v (alph ls vw)), some (vS f), some d, some e, none, none] M
  unfold r_check_machine
  obtain ⟨yr, lr, mr⟩ := snap_ls hd
  obtain ⟨ye, le, me⟩ := snap_ls he
  have nr : yr.length = rs.length := by rw [mapM_len mr, List.length_map]
  have ne : ye.length = es.length := by rw [mapM_len me, List.length_map]
  have h1 := tb.r
  have h2 := tb.e
  have h3 := tb.fl
  have raise : ∀ p, chkM ls f rs es = some p → ∃ ps, pures [vI p] = some ps ∧ ps.length = Cn.BadTable.flds.length ∧ xExit M E ⟨.BadTable, ps⟩ M := fun p h => ⟨[.int p], rfl, rfl, xe_same (kE p h)⟩
  have ey : yr.isEmpty = rs.isEmpty := by
    cases yr with
    | nil => cases rs with
      | nil => rfl
      | cons _ _ => cases nr
    | cons _ _ => cases rs with
      | nil => cases nr
      | cons _ _ => rfl
  walk_at "dz"
  refine k_truLs lr ?_
  rw [ey]
  cases h0 : rs.isEmpty with
  | true =>
    have e0 : rs = [] := List.isEmpty_iff.mp h0
    walk_at "dz"
    exact raise (-1) (chk_first (Or.inl e0))
  | false =>
    have e0 : rs ≠ [] := fun q => by rw [q] at h0; cases h0
    walk_at "dz"
    refine k_lenLs lr ?_
    walk_at "dz"
    refine k_lenLs le ?_
    rw [nr, ne]
    walk_at "dz"
    refine ite2 (fun h => ?_) (fun h => ?_)
    · have h4 : rs.length ≠ es.length := fun q => by rw [q] at h; simp at h
      walk_at "dz"
      exact raise (-1) (chk_first (Or.inr (Or.inl h4)))
    have h4 : rs.length = es.length := by
      by_cases q : (rs.length : Int) = es.length
      · omega
      · rw [decide_eq_false q] at h; exact absurd rfl h
    walk_at "dz"
    refine k_m ob_alph rfl ?_
    walk_at "dz"
    refine ⟨ls, vw, f, rfl, ?_⟩
    walk_at "dz"
    cases hw : isW ls f with
    | false =>
      walk_at "dz"
      exact raise (-1) (chk_first (Or.inr (Or.inr hw)))
    | true =>
      have hno : ¬ (rs = [] ∨ rs.length ≠ es.length ∨ isW ls f = false) := by rw [hw]; simp [e0, h4]
      walk_at "dz"
      refine k_lenLs lr ?_
      rw [nr]
      walk_at "dz"
      refine ⟨_, rfl, by omega, by omega, ?_⟩
      refine loop_inv (fun i ds M' => M' = M ∧ (∃ v4 v5, ds = [some (.v (alph ls vw)), some (vS f), some d, some e, v4, v5]) ∧ ∀ j < i, badAt ls rs es j = false) ⟨rfl, ⟨_, _, rfl⟩, fun j hj => absurd hj (Nat.not_lt_zero _)⟩ ?_ ?_
      · rintro i x ds M1 N hx ⟨rfl, ⟨v4, v5, rfl⟩, hp⟩ hN
        obtain ⟨hi, rfl⟩ : i < rs.length ∧ x = vI i := by
          rw [List.getElem?_map] at hx
          cases q : (List.range ((rs.length : Int)).toNat)[i]? with
          | none => rw [q] at hx; cases hx
          | some k =>
            rw [q] at hx
            cases hx
            have h5 := List.getElem?_eq_some_iff.mp q
            obtain ⟨h6, h7⟩ := h5
            rw [List.length_range] at h6
            rw [List.getElem_range] at h7
            subst h7
            exact ⟨by omega, rfl⟩
        obtain ⟨r, hr⟩ : ∃ r, rs[i]? = some r := ⟨_, List.getElem?_eq_getElem hi⟩
        obtain ⟨en, hen⟩ : ∃ en, es[i]? = some en := ⟨_, List.getElem?_eq_getElem (by omega)⟩
        obtain ⟨y, hy, sy⟩ := mapM_got mr (show (rs.map rowP)[i]? = some (rowP r) by rw [List.getElem?_map, hr]; rfl)
        obtain ⟨z, hz, sz⟩ := mapM_got me (show (es.map endP)[i]? = some (endP en) by rw [List.getElem?_map, hen]; rfl)
        obtain rfl := snap_0 sz
        obtain ⟨yy, ly, my⟩ := snap_ls sy
        have ny : yy.length = r.length := by rw [mapM_len my, List.length_map]
        have hrm := List.mem_of_getElem? hr
        have h6 := tb.w r hrm
        have hbad : badAt ls rs es i = (!decide (r.length = ls.length + 1) || r.any (badStp ls rs.length) || badEnd ls en) := by unfold badAt; rw [hr, hen]
        walk_at "dz"
        refine k_ixLs lr hy ?_
        walk_at "dz"
        refine k_lenLs ly ?_
        rw [ny]
        walk_at "dz"
        refine fld_sg ?_
        walk_at "dz"
        refine ite2 (fun h => ?_) (fun h => ?_)
        · have h7 : r.length ≠ ls.length + 1 := fun q => by simp [q] at h
          walk_at "dz"
          exact raise i (chk_at hno hi (by rw [hbad, decide_eq_false h7]; rfl) hp)
        have h7 : r.length = ls.length + 1 := by
          by_cases q : r.length = ls.length + 1
          · exact q
          · exfalso
            apply h
            simp
            omega
        walk_at "dz"
        refine k_ixLs lr hy ?_
        refine ⟨yy, ly, ?_⟩
        refine loopG_inv (fun k ds M' => M' = M1 ∧ (∃ v5, ds = [some (.v (alph ls vw)), some (vS f), some d, some e, some (vI i), v5]) ∧ ∀ j < k, ∀ st, r[j]? = some st → badStp ls rs.length st = false) ⟨rfl, ⟨_, rfl⟩, fun j hj => absurd hj (Nat.not_lt_zero _)⟩ (fun _ _ _ q => by rw [q.1]; exact ly) ?_ ?_
        · rintro k x ds M2 N2 hx ⟨rfl, ⟨v5, rfl⟩, hq⟩ hN2
          obtain ⟨px, hpx, sx⟩ := mapM_get my hx
          obtain rfl := snap_0 sx
          rw [List.getElem?_map] at hpx
          cases hst : r[k]? with
          | none => rw [hst] at hpx; cases hpx
          | some st =>
            rw [hst] at hpx
            cases hpx
            have bad : badStp ls rs.length st = true → badAt ls rs es i = true := fun q => by
              rw [hbad, List.any_eq_true.mpr ⟨st, List.mem_of_getElem? hst, q⟩]
              simp
            have good : badStp ls rs.length st = false → ∀ j < k + 1, ∀ st, r[j]? = some st → badStp ls rs.length st = false := fun q j hj st' hst' => by
              rcases Nat.lt_succ_iff_lt_or_eq.mp hj with hj | rfl
              · exact hq j hj st' hst'
              · rw [hst] at hst'; cases hst'; exact q
            cases st with
            | none =>
              walk_at "dz"
              exact hN2 _ _ ⟨rfl, ⟨_, rfl⟩, good rfl⟩
            | some pt =>
              obtain ⟨p, t⟩ := pt
              have htl := tb.t r hrm p t (List.mem_of_getElem? hst)
              show hName 5 (vT [.int p, .str t]) _ _ _
              walk_at "dz"
              have bp : (0 ≤ p ∧ p < (rs.length : Int) ∧ isW ls t = true) → badStp ls rs.length (some (p, t)) = false := fun ⟨a1, a2, a3⟩ => by
                show (!(decide (0 ≤ p) && decide (p < (rs.length : Int)) && isW ls t)) = false
                rw [decide_eq_true a1, decide_eq_true a2, a3]
                rfl
              have bn : ¬ (0 ≤ p ∧ p < (rs.length : Int) ∧ isW ls t = true) → badStp ls rs.length (some (p, t)) = true := fun h => by
                show (!(decide (0 ≤ p) && decide (p < (rs.length : Int)) && isW ls t)) = true
                by_cases a1 : 0 ≤ p
                · by_cases a2 : p < (rs.length : Int)
                  · cases a3 : isW ls t with
                    | true => exact absurd ⟨a1, a2, a3⟩ h
                    | false => simp
                  · rw [decide_eq_false a2]; simp
                · rw [decide_eq_false a1]; simp
              by_cases a1 : 0 ≤ p
              · rw [decide_eq_true a1]
                walk_at "dz"
                refine k_lenLs lr ?_
                rw [nr]
                walk_at "dz"
                by_cases a2 : p < (rs.length : Int)
                · rw [decide_eq_true a2]
                  walk_at "dz"
                  refine k_m ob_alph rfl ?_
                  walk_at "dz"
                  refine ⟨ls, vw, t, rfl, ?_⟩
                  walk_at "dz"
                  cases a3 : isW ls t with
                  | true =>
                    walk_at "dz"
                    exact hN2 _ _ ⟨rfl, ⟨_, rfl⟩, good (bp ⟨a1, a2, a3⟩)⟩
                  | false =>
                    walk_at "dz"
                    exact raise i (chk_at hno hi (bad (bn fun q => by rw [a3] at q; cases q.2.2)) hp)
                · rw [decide_eq_false a2]
                  walk_at "dz"
                  exact raise i (chk_at hno hi (bad (bn fun q => a2 q.2.1)) hp)
              · rw [decide_eq_false a1]
                walk_at "dz"
                exact raise i (chk_at hno hi (bad (bn fun q => a1 q.1)) hp)
        · rintro ds M2 ⟨rfl, ⟨v5, rfl⟩, hq⟩
          have hany : r.any (badStp ls rs.length) = false := by
            rw [List.any_eq_false]
            intro st hst
            obtain ⟨j, hj, e⟩ := List.getElem_of_mem hst
            have := hq j (by rw [ny]; exact hj) st (by rw [List.getElem?_eq_getElem hj, e])
            rw [this]
            simp
          have done : badEnd ls en = false → ∀ j < i + 1, badAt ls rs es j = false := fun q j hj => by
            rcases Nat.lt_succ_iff_lt_or_eq.mp hj with hj | rfl
            · exact hp j hj
            · rw [hbad, decide_eq_true h7, hany, q]
              rfl
          walk_at "dz"
          refine k_ixLs le hz ?_
          cases en with
          | none =>
            walk_at "dz"
            exact hN _ _ ⟨rfl, ⟨_, _, rfl⟩, done rfl⟩
          | some t =>
            have htl := tb.u t (List.mem_of_getElem? hen)
            rw [show endP (some t) = PV.str t from rfl] at hz ⊢
            walk_at "dz"
            refine k_m ob_alph rfl ?_
            walk_at "dz"
            refine k_ixLs le hz ?_
            walk_at "dz"
            refine ⟨ls, vw, t, rfl, ?_⟩
            walk_at "dz"
            cases a3 : isW ls t with
            | true =>
              walk_at "dz"
              exact hN _ _ ⟨rfl, ⟨_, _, rfl⟩, done (by show (!isW ls t) = false; rw [a3]; rfl)⟩
            | false =>
              walk_at "dz"
              exact raise i (chk_at hno hi (by rw [hbad]; show (_ || (!isW ls t)) = true; rw [a3]; simp) hp)
      · rintro ds M1 ⟨rfl, ⟨v4, v5, rfl⟩, hp⟩
        rw [List.length_map, List.length_range] at hp
        exact x_same (kq (chk_ok hno (by simpa using hp)))
theorem snap_set {M : Mem} {i : Nat} {k k' : Cn} {ys zs : List D} (m : M[i]? = some (some (.obj k ys))) : ∀ (n : Nat) (d : D) (x : PV), snap M n d = some x → snap (M.set i (some (.obj k' zs))) n d = some x := by
  intro n
  induction n with
  | zero =>
    intro d x h
    cases d with
    | v y => exact h
    | cell j => cases h
    | exn a => cases h
  | succ n ih =>
    intro d x h
    cases d with
    | v y => exact h
    | exn a => cases h
    | cell j =>
      have h' : (match M[j]? with | some (some (Cell.lst ds)) => (ds.mapM (snap M n)).map PV.lst | _ => none) = some x := h
      split at h'
      · rename_i ds mj
        cases hm : ds.mapM (snap M n) with
        | none => rw [hm] at h'; cases h'
        | some xs =>
          rw [hm] at h'
          cases h'
          have hne : i ≠ j := fun q => by rw [q, mj] at m; cases m
          refine snap_c (by rw [List.getElem?_set_ne hne]; exact mj) ?_
          have key : ∀ (ds : List D) (xs : List PV), ds.mapM (snap M n) = some xs → ds.mapM (snap (M.set i (some (.obj k' zs))) n) = some xs := by
            intro ds
            induction ds with
            | nil => intro xs h; exact h
            | cons a ds ih2 =>
              intro xs h
              rw [List.mapM_cons] at h ⊢
              cases ha : snap M n a with
              | none => rw [ha] at h; cases h
              | some y =>
                rw [ha] at h
                cases hb : ds.mapM (snap M n) with
                | none => rw [hb] at h; cases h
                | some zs' =>
                  rw [hb] at h
                  cases h
                  rw [ih a y ha, ih2 zs' hb]
                  rfl
          exact key ds xs hm
      · cases h'
theorem ref_Machine_init (ds : List D) (M : Mem) (Q : DQ) (E : DX) (h : g_Machine_init ds M Q E) : r_Machine_init E { nx := fun _ M' => Q (.v .non) M', rt := Q } (startD 6 ds) M := by
  obtain ⟨i, ls, vw, f, rs, es, d, e, rfl, hM, hd, he, hl, tb, kq, kE⟩ := h
  show r_Machine_init E _ [some (.cell i), some (.v (alph ls vw)), some (vS f), some d, some e, none] M
  unfold r_Machine_init
  have hn := (List.getElem?_eq_some_iff.mp hM).1
  have gs : ∀ x : Cell, (M.set i (some x))[i]? = some (some x) := fun x => List.getElem?_set_self hn
  have h1 := tb.r
  walk_at "dz"
  refine ⟨ls, vw, f, rs, es, d, e, rfl, hd, he, hl, tb, fun hk => ?_, fun p hp => kE p hp⟩
  walk_at "dz"
  refine k_put hM (by with_unfolding_all exact rfl) (by decide) ?_
  walk_at "dz"
  refine k_put (gs _) (by with_unfolding_all exact rfl) (by decide) ?_
  rw [List.set_set]
  have hd2 := snap_set (k' := .Machine) (zs := [.v (alph ls vw), vS f]) hM 2 d _ hd
  obtain ⟨yr, lr, mr⟩ := snap_ls hd2
  have nr : yr.length = rs.length := by rw [mapM_len mr, List.length_map]
  walk_at "dz"
  refine ⟨yr, lr, ?_⟩
  refine compG_inv (fun k acc M' => M' = M.set i (some (.obj .Machine [.v (alph ls vw), vS f])) ∧ acc = (rs.take k).map rowP) ⟨rfl, rfl⟩ (fun _ _ _ q => by rw [q.1]; exact lr) ?_ ?_
  · rintro k x acc M1 N hx ⟨rfl, rfl⟩ hN
    obtain ⟨px, hpx, sx⟩ := mapM_get mr hx
    rw [List.getElem?_map] at hpx
    cases hr : rs[k]? with
    | none => rw [hr] at hpx; cases hpx
    | some r =>
      rw [hr] at hpx
      cases hpx
      obtain ⟨yy, ly, my⟩ := snap_ls sx
      walk_at "dz"
      refine k_listLs ly (pures_0 my) ?_
      refine ⟨_, rfl, by rw [List.length_map, List.length_take, sizeLine_eq]; omega, hN _ _ ⟨rfl, ?_⟩⟩
      rw [List.take_add_one, hr]
      simp [rowP]
  rintro acc M1 ⟨rfl, rfl⟩
  rw [nr, List.take_length]
  walk_at "dz"
  refine k_put (gs _) (by with_unfolding_all exact rfl) (by decide) ?_
  rw [List.set_set]
  have he2 := snap_set (k' := .Machine) (zs := [.v (alph ls vw), vS f, .v (rowsP rs)]) hM 1 e _ he
  obtain ⟨ye, le, me⟩ := snap_ls he2
  walk_at "dz"
  refine k_listLs le (pures_0 me) ?_
  walk_at "dz"
  refine k_put (gs _) (by with_unfolding_all exact rfl) (by decide) ?_
  rw [List.set_set]
  exact kq hk
theorem stpP_inj : ∀ {a b : Stp}, stpP a = stpP b → a = b
  | none, none, _ => rfl
  | none, some (_, _), h => by cases h
  | some (_, _), none, h => by cases h
  | some (_, _), some (_, _), h => by cases h; rfl
theorem map_inj {α β : Type} {f : α → β} (hf : ∀ {a b}, f a = f b → a = b) : ∀ {xs ys : List α}, xs.map f = ys.map f → xs = ys
  | [], [], _ => rfl
  | [], _ :: _, h => by cases h
  | _ :: _, [], h => by cases h
  | x :: xs, y :: ys, h => by
    rw [List.map_cons, List.map_cons] at h
    injection h with h1 h2
    rw [hf h1, map_inj hf h2]
theorem rowP_inj {a b : List Stp} (h : rowP a = rowP b) : a = b := map_inj stpP_inj (PV.lst.inj h)
theorem rowsP_inj {a b : List (List Stp)} (h : rowsP a = rowsP b) : a = b := map_inj rowP_inj (PV.lst.inj h)
theorem noB_stp (a : Stp) : (stpP a).noB = true := by cases a with | none => rfl | some p => rfl
theorem noB_row (r : List Stp) : (rowP r).noB = true := (PV.noBL_iff _).mpr fun x hx => by obtain ⟨a, _, rfl⟩ := List.mem_map.mp hx; exact noB_stp a
theorem noB_rows (rs : List (List Stp)) : (rowsP rs).noB = true := (PV.noBL_iff _).mpr fun x hx => by obtain ⟨a, _, rfl⟩ := List.mem_map.mp hx; exact noB_row a
theorem eqv_rows {rs rs' : List (List Stp)} (h : (rowsP rs).lay 60 = true) : eqvP (rowsP rs) (rowsP rs') = decide (rs = rs') := by
  have k := eqvP_iff h (noB_rows rs) (noB_rows rs')
  by_cases e : rs = rs'
  · rw [decide_eq_true e]; exact k.mpr (by rw [e])
  · rw [decide_eq_false e]
    cases q : eqvP (rowsP rs) (rowsP rs') with
    | false => rfl
    | true => exact absurd (rowsP_inj (k.mp q)) e
end Cl
/-! Machines: the defs keep their promises. -/
namespace Cl
open PySem PySem.Spec PyProof.Rows L2 He ClX
local macro_rules | `(tactic| walk_at "sz") => `(tactic| (rw [sizeLine_eq]; (try simp only [List.length_append, List.length_cons, List.length_nil, List.length_map, List.length_reverse]); omega))
local macro_rules | `(tactic| walk_at "ds") => `(tactic| repeat (first
  | with_reducible refine k_seq ?_
  | with_reducible refine k_asg ?_
  | with_reducible refine k_var (by with_unfolding_all exact rfl) ?_
  | with_reducible refine k_c ?_
  | with_reducible refine k_op ?_
  | with_reducible refine k_cons ?_
  | with_reducible refine k_nil ?_
  | with_reducible refine k_name ?_
  | with_reducible refine k_ifS ?_
  | with_reducible refine k_test ?_
  | with_reducible refine k_bl ?_
  | with_reducible refine iteT ?_
  | with_reducible refine iteF ?_
  | with_reducible refine k_nf ?_
  | with_reducible refine k_nt ?_
  | with_reducible refine k_ret ?_
  | with_reducible refine k_cb ?_
  | with_reducible refine k_call ?_
  | with_reducible refine k_not ?_
  | with_reducible refine k_and ?_
  | with_reducible refine k_or ?_
  | with_reducible refine k_drop ?_
  | with_reducible refine k_next ?_
  | with_reducible refine k_bm ?_
  | with_reducible refine k_tyS ?_
  | with_reducible refine k_un ?_
  | with_reducible refine k_neg ?_
  | with_reducible refine k_fld ?_
  | with_reducible refine k_meth ?_
  | with_reducible refine k_tru ?_
  | with_reducible refine k_truB ?_
  | with_reducible refine k_truL ?_
  | with_reducible refine k_sl ?_
  | with_reducible refine k_part ?_
  | with_reducible refine k_nopart ?_
  | with_reducible refine k_i ?_
  | with_reducible refine k_s ?_
  | with_reducible refine k_l ?_
  | with_reducible refine k_tu ?_
  | with_reducible refine k_tup ?_
  | with_reducible refine k_lst ?_
  | with_reducible refine k_pu (by with_unfolding_all exact rfl) (by walk_at "sz") ?_
  | with_reducible refine k_lstC ?_
  | with_reducible refine k_lc ?_
  | with_reducible refine k_yes ?_
  | with_reducible refine k_for ?_
  | with_reducible refine k_jstr ?_
  | with_reducible refine k_jlst ?_
  | with_reducible refine k_jtup ?_
  | with_reducible refine k_rng1 ?_
  | with_reducible refine k_if ?_
  | with_reducible refine k_andV ?_
  | with_reducible refine k_orV ?_
  | with_reducible refine k_notV ?_
  | with_reducible refine k_chain ?_
  | with_reducible refine k_raise ?_
  | with_reducible refine k_stf ?_
  | with_reducible refine k_frz ?_
  | with_reducible refine k_frzV _ ?_
  | with_reducible refine k_make ?_
  | with_reducible refine k_try ?_
  | with_reducible refine k_callI ?_
  | with_reducible refine k_callIS ?_
  | with_reducible refine k_xf ?_
  | with_reducible refine k_sub ?_
  | with_reducible refine k_fs ?_
  | with_reducible refine k_js ?_
  | with_reducible refine k_jnil ?_
  | with_reducible refine k_fmt ?_
  | with_reducible refine k_rev ?_
  | with_reducible refine k_lenSet ?_
  | with_reducible refine k_srtSet ?_
  | with_reducible refine k_gcons ?_
  | with_reducible refine k_gnil ?_
  | with_reducible refine k_gtup (by rfl) ?_
  | with_reducible refine k_addI ?_
  | with_reducible refine k_subI ?_
  | with_reducible refine k_lt ?_
  | with_reducible refine k_le ?_
  | with_reducible refine k_gt ?_
  | with_reducible refine k_ge ?_
  | with_reducible refine k_in ?_
  | with_reducible refine k_notin ?_
  | with_reducible refine k_isN ?_
  | with_reducible refine k_isnotN ?_
  | with_reducible refine k_isB ?_
  | with_reducible refine k_isnotB ?_
  | with_reducible refine k_int ?_
  | with_reducible refine k_intB ?_
  | with_reducible refine k_bool ?_
  | with_reducible refine k_neS ?_
  | with_reducible refine k_eqS ?_
  | with_reducible refine k_eq (by with_unfolding_all exact rfl) ?_
  | with_reducible refine k_ne (by with_unfolding_all exact rfl) ?_
  | with_reducible refine k_ixT (by with_unfolding_all exact rfl) ?_
  | with_reducible refine k_ixL (by with_unfolding_all exact rfl) ?_
  | with_reducible refine k_slL ?_
  | with_reducible refine k_lenL ?_
  | with_reducible refine k_lenT ?_
  | with_reducible refine k_listL ?_
  | with_reducible refine k_listT ?_
  | with_reducible refine k_fo (by with_unfolding_all exact rfl) ?_
  | with_reducible refine k_rng2 ?_
  | with_reducible refine k_star ?_
  | with_reducible refine k_makeR ?_
  | with_reducible refine k_cmeth ?_
  | with_reducible refine k_tupOf ?_
  | with_reducible refine k_tupT ?_
  | with_reducible refine k_tupL ?_
  | with_reducible refine k_cls ?_
  | with_reducible refine k_starT ?_
  | with_reducible refine k_starL ?_
  | with_reducible refine k_raise2 ?_
  | with_reducible refine k_raise0 ?_
  | with_reducible refine k_forG ?_
  | with_reducible refine k_jls ?_
  | with_reducible refine k_lcG ?_
  | with_reducible refine k_lcCG ?_
  | with_reducible refine k_gm1 ?_
  | with_reducible refine k_callSt ?_
  | with_reducible refine k_makeS ?_
  | with_reducible refine k_methS ?_
  | with_reducible refine k_sz (by walk_at "sz") ?_
  | with_reducible refine k_lenS (by walk_at "sz") ?_
  | with_reducible refine k_addS (by walk_at "sz") ?_
  | with_reducible refine k_slS (by walk_at "sz") ?_))
local macro_rules | `(tactic| walk_at "dz") => `(tactic| (walk_at "ds"; repeat (first
  | (with_reducible refine k_ixm0 ?_; walk_at "ds")
  | (with_reducible refine k_ixm1 ?_; walk_at "ds")
  | (with_reducible refine k_ixm2 ?_; walk_at "ds")
  | (with_reducible refine k_ixm3 ?_; walk_at "ds")
  | (with_reducible refine z_eq ?_; walk_at "ds")
  | (with_reducible refine z_neq ?_; walk_at "ds")
  | (with_reducible refine z_F (c := isNon (.v _)) (by with_unfolding_all exact rfl) ?_; walk_at "ds")
  | (with_reducible refine z_nF (c := isNon (.v _)) (by with_unfolding_all exact rfl) ?_; walk_at "ds")
  | (with_reducible refine z_T (c := isNon (.v _)) (by with_unfolding_all exact rfl) ?_; walk_at "ds")
  | (with_reducible refine z_nT (c := isNon (.v _)) (by with_unfolding_all exact rfl) ?_; walk_at "ds")
  | (with_reducible refine z_lnF (by first | omega | (simp; done) | (simp; omega)) ?_; walk_at "ds")
  | (with_reducible refine z_lnT (by first | omega | (simp; done) | (simp; omega)) ?_; walk_at "ds")
  | (with_reducible refine z_nlnF (by first | omega | (simp; done) | (simp; omega)) ?_; walk_at "ds")
  | (with_reducible refine z_nlnT (by first | omega | (simp; done) | (simp; omega)) ?_; walk_at "ds")
  | (with_reducible refine z_lgF (by first | omega | (simp; done) | (simp; omega)) ?_; walk_at "ds")
  | (with_reducible refine z_lgT (by first | omega | (simp; done) | (simp; omega)) ?_; walk_at "ds")
  | (with_reducible refine z_F (by decide) ?_; walk_at "ds")
  | (with_reducible refine z_T (by decide) ?_; walk_at "ds")
  | (with_reducible refine z_nF (by decide) ?_; walk_at "ds")
  | (with_reducible refine z_nT (by decide) ?_; walk_at "ds"))))
end Cl
/-! Machines: the defs keep their promises. -/
namespace Cl
open PySem PySem.Spec PyProof.Rows L2 He ClX
local macro_rules | `(tactic| walk_at "sz") => `(tactic| (rw [sizeLine_eq]; (try simp only [List.length_append, List.length_cons, List.length_nil, List.length_map, List.length_reverse]); omega))
local macro_rules | `(tactic| walk_at "ds") => `(tactic| repeat (first
  | with_reducible refine k_seq ?_
  | with_reducible refine k_asg ?_
  | with_reducible refine k_var (by with_unfolding_all exact rfl) ?_
  | with_reducible refine k_c ?_
  | with_reducible refine k_op ?_
  | with_reducible refine k_cons ?_
  | with_reducible refine k_nil ?_
  | with_reducible refine k_name ?_
  | with_reducible refine k_ifS ?_
  | with_reducible refine k_test ?_
  | with_reducible refine k_bl ?_
  | with_reducible refine iteT ?_
  | with_reducible refine iteF ?_
  | with_reducible refine k_nf ?_
  | with_reducible refine k_nt ?_
  | with_reducible refine k_ret ?_
  | with_reducible refine k_cb ?_
  | with_reducible refine k_call ?_
  | with_reducible refine k_not ?_
  | with_reducible refine k_and ?_
  | with_reducible refine k_or ?_
  | with_reducible refine k_drop ?_
  | with_reducible refine k_next ?_
  | with_reducible refine k_bm ?_
  | with_reducible refine k_tyS ?_
  | with_reducible refine k_un ?_
  | with_reducible refine k_neg ?_
  | with_reducible refine k_fld ?_
  | with_reducible refine k_meth ?_
  | with_reducible refine k_tru ?_
  | with_reducible refine k_truB ?_
  | with_reducible refine k_truL ?_
  | with_reducible refine k_sl ?_
  | with_reducible refine k_part ?_
  | with_reducible refine k_nopart ?_
  | with_reducible refine k_i ?_
  | with_reducible refine k_s ?_
  | with_reducible refine k_l ?_
  | with_reducible refine k_tu ?_
  | with_reducible refine k_tup ?_
  | with_reducible refine k_lst ?_
  | with_reducible refine k_pu (by with_unfolding_all exact rfl) (by walk_at "sz") ?_
  | with_reducible refine k_lstC ?_
  | with_reducible refine k_lc ?_
  | with_reducible refine k_yes ?_
  | with_reducible refine k_for ?_
  | with_reducible refine k_jstr ?_
  | with_reducible refine k_jlst ?_
  | with_reducible refine k_jtup ?_
  | with_reducible refine k_rng1 ?_
  | with_reducible refine k_if ?_
  | with_reducible refine k_andV ?_
  | with_reducible refine k_orV ?_
  | with_reducible refine k_notV ?_
  | with_reducible refine k_chain ?_
  | with_reducible refine k_raise ?_
  | with_reducible refine k_stf ?_
  | with_reducible refine k_frz ?_
  | with_reducible refine k_frzV _ ?_
  | with_reducible refine k_make ?_
  | with_reducible refine k_try ?_
  | with_reducible refine k_callI ?_
  | with_reducible refine k_callIS ?_
  | with_reducible refine k_xf ?_
  | with_reducible refine k_sub ?_
  | with_reducible refine k_fs ?_
  | with_reducible refine k_js ?_
  | with_reducible refine k_jnil ?_
  | with_reducible refine k_fmt ?_
  | with_reducible refine k_rev ?_
  | with_reducible refine k_lenSet ?_
  | with_reducible refine k_srtSet ?_
  | with_reducible refine k_gcons ?_
  | with_reducible refine k_gnil ?_
  | with_reducible refine k_gtup (by rfl) ?_
  | with_reducible refine k_addI ?_
  | with_reducible refine k_subI ?_
  | with_reducible refine k_lt ?_
  | with_reducible refine k_le ?_
  | with_reducible refine k_gt ?_
  | with_reducible refine k_ge ?_
  | with_reducible refine k_in ?_
  | with_reducible refine k_notin ?_
  | with_reducible refine k_isN ?_
  | with_reducible refine k_isnotN ?_
  | with_reducible refine k_isB ?_
  | with_reducible refine k_isnotB ?_
  | with_reducible refine k_int ?_
  | with_reducible refine k_intB ?_
  | with_reducible refine k_bool ?_
  | with_reducible refine k_neS ?_
  | with_reducible refine k_eqS ?_
  | with_reducible refine k_eq (by with_unfolding_all exact rfl) ?_
  | with_reducible refine k_ne (by with_unfolding_all exact rfl) ?_
  | with_reducible refine k_ixT (by with_unfolding_all exact rfl) ?_
  | with_reducible refine k_ixL (by with_unfolding_all exact rfl) ?_
  | with_reducible refine k_slL ?_
  | with_reducible refine k_lenL ?_
  | with_reducible refine k_lenT ?_
  | with_reducible refine k_listL ?_
  | with_reducible refine k_listT ?_
  | with_reducible refine k_fo (by with_unfolding_all exact rfl) ?_
  | with_reducible refine k_rng2 ?_
  | with_reducible refine k_star ?_
  | with_reducible refine k_makeR ?_
  | with_reducible refine k_cmeth ?_
  | with_reducible refine k_tupOf ?_
  | with_reducible refine k_tupT ?_
  | with_reducible refine k_tupL ?_
  | with_reducible refine k_cls ?_
  | with_reducible refine k_starT ?_
  | with_reducible refine k_starL ?_
  | with_reducible refine k_raise2 ?_
  | with_reducible refine k_raise0 ?_
  | with_reducible refine k_forG ?_
  | with_reducible refine k_jls ?_
  | with_reducible refine k_lcG ?_
  | with_reducible refine k_lcCG ?_
  | with_reducible refine k_gm1 ?_
  | with_reducible refine k_callSt ?_
  | with_reducible refine k_makeS ?_
  | with_reducible refine k_methS ?_
  | with_reducible refine k_sz (by walk_at "sz") ?_
  | with_reducible refine k_lenS (by walk_at "sz") ?_
  | with_reducible refine k_addS (by walk_at "sz") ?_
  | with_reducible refine k_slS (by walk_at "sz") ?_))
local macro_rules | `(tactic| walk_at "dz") => `(tactic| (walk_at "ds"; repeat (first
  | (with_reducible refine k_ixm0 ?_; walk_at "ds")
  | (with_reducible refine k_ixm1 ?_; walk_at "ds")
  | (with_reducible refine k_ixm2 ?_; walk_at "ds")
  | (with_reducible refine k_ixm3 ?_; walk_at "ds")
  | (with_reducible refine z_eq ?_; walk_at "ds")
  | (with_reducible refine z_neq ?_; walk_at "ds")
  | (with_reducible refine z_F (c := isNon (.v _)) (by with_unfolding_all exact rfl) ?_; walk_at "ds")
  | (with_reducible refine z_nF (c := isNon (.v _)) (by with_unfolding_all exact rfl) ?_; walk_at "ds")
  | (with_reducible refine z_T (c := isNon (.v _)) (by with_unfolding_all exact rfl) ?_; walk_at "ds")
  | (with_reducible refine z_nT (c := isNon (.v _)) (by with_unfolding_all exact rfl) ?_; walk_at "ds")
  | (with_reducible refine z_lnF (by first | omega | (simp; done) | (simp; omega)) ?_; walk_at "ds")
  | (with_reducible refine z_lnT (by first | omega | (simp; done) | (simp; omega)) ?_; walk_at "ds")
  | (with_reducible refine z_nlnF (by first | omega | (simp; done) | (simp; omega)) ?_; walk_at "ds")
  | (with_reducible refine z_nlnT (by first | omega | (simp; done) | (simp; omega)) ?_; walk_at "ds")
  | (with_reducible refine z_lgF (by first | omega | (simp; done) | (simp; omega)) ?_; walk_at "ds")
  | (with_reducible refine z_lgT (by first | omega | (simp; done) | (simp; omega)) ?_; walk_at "ds")
  | (with_reducible refine z_F (by decide) ?_; walk_at "ds")
  | (with_reducible refine z_T (by decide) ?_; walk_at "ds")
  | (with_reducible refine z_nF (by decide) ?_; walk_at "ds")
  | (with_reducible refine z_nT (by decide) ?_; walk_at "ds"))))
theorem getA {α : Type} {M1 L : List α} {n : Nat} (h : M1.length = n) (k : Nat) : (M1 ++ L)[n + k]? = L[k]? := by
  subst h
  rw [List.getElem?_append_right (Nat.le_add_right ..), Nat.add_sub_cancel_left]
theorem setA {α : Type} {M1 L : List α} {n : Nat} (h : M1.length = n) (k : Nat) (y : α) : (M1 ++ L).set (n + k) y = M1 ++ L.set k y := by
  subst h
  rw [List.set_append_right _ _ (Nat.le_add_right ..), Nat.add_sub_cancel_left]
theorem getJ {α : Type} {a e x : α} {J : List α} : (a :: e :: (J ++ [x]))[J.length + 2]? = some x := by simp
theorem setJ {α : Type} {a e x y : α} {J : List α} : (a :: e :: (J ++ [x])).set (J.length + 2) y = a :: e :: (J ++ [y]) := by simp
theorem ref_l_table (ds : List D) (M : Mem) (Q : DQ) (E : DX) (h : g_l_table ds M Q E) : r_l_table { nx := fun _ M' => qExit M Q (.v .non) M', rt := qExit M Q } (startD 12 ds) M := by
  obtain ⟨b, ls, top, rfl, hb, hll, ht1, ht2, q⟩ := h
  show r_l_table _ [some (.cell b), some (vS (45 :: ls)), some (vI top), none, none, none, none, none, none, none, none, none] M
  unfold r_l_table
  have hbl := hb.lt
  walk_at "dz"
  refine c_take hb (by omega) (by omega) fun r M1 hr d1 hb1 => ?_
  walk_at "dz"
  rw [show (1 + (r : Int)) = ((1 + r : Nat) : Int) by omega]
  rw [d1.len, show (M1 ++ [some (Cell.lst [])]).length = M.length + 1 by rw [List.length_append, d1.len]; rfl]
  refine ⟨_, rfl, by omega, by omega, ?_⟩
  rw [Int.toNat_natCast, List.append_assoc]
  refine loop_inv (fun i ds M' => ∃ (rs : List (List Stp)) (es : List (Option (List Nat))) (J M1 : Mem), ∃ v6 v7 v8 v9 v10 v11, M' = M1 ++ (some (.lst ((rs.map rowP).map D.v)) :: some (.lst ((es.map endP).map D.v)) :: J) ∧ Bd b M M1 ∧ rs.length = i ∧ es.length = i ∧ (∀ w ∈ rs, w.length = ls.length + 1) ∧ (∀ w ∈ rs, ∀ p t, some (p, t) ∈ w → 0 ≤ p ∧ p < ((1 + r : Nat) : Int) ∧ isW ls t = true ∧ t.length ≤ 2) ∧ (∀ t, some t ∈ es → isW ls t = true ∧ t.length ≤ 2) ∧ ds = [some (.cell b), some (vS (45 :: ls)), some (vI top), some (vI (1 + r : Nat)), some (.cell M.length), some (.cell (M.length + 1)), v6, v7, v8, v9, v10, v11]) ⟨[], [], [], M1, _, _, _, _, _, _, rfl, d1, rfl, rfl, (fun _ h => nomatch h), (fun _ h => nomatch h), (fun _ h => nomatch h), rfl⟩ ?_ ?_
  · rintro i x ds M' N hx ⟨rs, es, J, M2, v6, v7, v8, v9, v10, v11, rfl, d2, hrl, hel, hw, hs, he, rfl⟩ hN
    have hi : i < 1 + r := by
      have := (List.getElem?_eq_some_iff.mp hx).1
      rw [List.length_map, List.length_range] at this
      omega
    walk_at "dz"
    rw [show (M2 ++ (some (Cell.lst ((rs.map rowP).map D.v)) :: some (.lst ((es.map endP).map D.v)) :: J)).length = M.length + (J.length + 2) by rw [List.length_append, d2.len]; rfl]
    refine ⟨_, rfl, by rw [List.length_cons]; omega, by rw [List.length_cons]; omega, ?_⟩
    rw [Int.toNat_natCast, List.append_assoc]
    refine loop_inv (fun j ds M' => ∃ (w : List Stp) (M1 : Mem), ∃ v8 v9 v10, M' = M1 ++ (some (.lst ((rs.map rowP).map D.v)) :: some (.lst ((es.map endP).map D.v)) :: (J ++ [some (.lst ((w.map stpP).map D.v))])) ∧ Bd b M M1 ∧ w.length = j ∧ (∀ p t, some (p, t) ∈ w → 0 ≤ p ∧ p < ((1 + r : Nat) : Int) ∧ isW ls t = true ∧ t.length ≤ 2) ∧ ds = [some (.cell b), some (vS (45 :: ls)), some (vI top), some (vI (1 + r : Nat)), some (.cell M.length), some (.cell (M.length + 1)), some x, some (.cell (M.length + (J.length + 2))), v8, v9, v10, v11]) ⟨[], M2, _, _, _, rfl, d2, rfl, (fun _ _ h => nomatch h), rfl⟩ ?_ ?_
    · rintro j y ds M' N' hy ⟨w, M3, v8, v9, v10, rfl, d3, hwl, hws, rfl⟩ hN'
      have hj : j < ls.length + 1 := by
        have := (List.getElem?_eq_some_iff.mp hy).1
        rw [List.length_map, List.length_range, List.length_cons] at this
        omega
      walk_at "dz"
      refine c_take (d3.bg hb).app (by omega) (by omega) fun s M9 hs4 e9 _ => ?_
      obtain ⟨M4, rfl, e8⟩ := e9.app (by rw [d3.len]; exact hbl)
      have d4 := d3.trans e8
      walk_at "dz"
      refine c_word 2 (d4.bg hb).app (by simp) (by rw [List.length_cons]; omega) (by decide) fun t M9 ht5 htl e9 _ => ?_
      obtain ⟨M5, rfl, e8⟩ := e9.app (by rw [d4.len]; exact hbl)
      have d5 := d4.trans e8
      walk_at "dz"
      refine k_tyL (ls_cell ((getA d5.len _).trans getJ)) ?_
      walk_at "dz"
      refine ite2 (fun h => ?_) (fun h => ?_)
      · walk_at "dz"
        refine k_appAt ((getA d5.len _).trans getJ) (by rw [List.length_map, List.length_map, sizeLine_eq]; omega) ?_
        rw [setA d5.len, setJ]
        refine hN' _ _ ⟨w ++ [none], M5, _, _, _, by rw [List.map_append, List.map_append]; rfl, d5, by rw [List.length_append, hwl]; rfl, fun p u hu => ?_, rfl⟩
        rcases List.mem_append.mp hu with hu | hu
        · exact hws p u hu
        · cases List.mem_singleton.mp hu
      · have h0 : ¬ ((s : Int) - 1 < 0) := by simpa using h
        walk_at "dz"
        refine k_appAt ((getA d5.len _).trans getJ) (by rw [List.length_map, List.length_map, sizeLine_eq]; omega) ?_
        rw [setA d5.len, setJ]
        refine hN' _ _ ⟨w ++ [some ((s : Int) - 1, t)], M5, _, _, _, by rw [List.map_append, List.map_append]; rfl, d5, by rw [List.length_append, hwl]; rfl, fun p u hu => ?_, rfl⟩
        rcases List.mem_append.mp hu with hu | hu
        · exact hws p u hu
        · cases List.mem_singleton.mp hu
          exact ⟨by omega, by omega, isW_of ht5, htl⟩
    · rintro ds M' ⟨w, M3, v8, v9, v10, rfl, d3, hwl, hws, rfl⟩
      rw [List.length_map, List.length_range, List.length_cons] at hwl
      walk_at "dz"
      refine k_tyL (ls_cell ((getA d3.len 0).trans rfl)) ?_
      walk_at "dz"
      refine ⟨_, _, frz_cell ((getA d3.len _).trans getJ), ?_⟩
      rw [setA d3.len, setJ]
      walk_at "dz"
      refine k_appAt ((getA d3.len 0).trans rfl) (by rw [List.length_map, List.length_map, sizeLine_eq]; omega) ?_
      rw [show M.length = M.length + 0 from rfl, setA d3.len]
      walk_at "dz"
      refine c_word 2 (d3.bg hb).app (by simp) (by rw [List.length_cons]; omega) (by decide) fun t M9 ht5 htl e9 _ => ?_
      obtain ⟨M5, rfl, e8⟩ := e9.app (by rw [d3.len]; exact hbl)
      have d5 := d3.trans e8
      walk_at "dz"
      refine k_tyL (ls_cell ((getA d5.len 1).trans rfl)) ?_
      walk_at "dz"
      refine c_take (d5.bg hb).app (by omega) (by omega) fun s M9 hs4 e9 _ => ?_
      obtain ⟨M4, rfl, e8⟩ := e9.app (by rw [d5.len]; exact hbl)
      have d4 := d5.trans e8
      walk_at "dz"
      have fin : ∀ en : Option (List Nat), (∀ t, en = some t → isW ls t = true ∧ t.length ≤ 2) → ∀ v, v = endP en → uApp (.cell (M.length + 1)) [.v v] (M4 ++ List.set (some (Cell.lst ((rs.map rowP).map D.v)) :: some (.lst ((es.map endP).map D.v)) :: (J ++ [none])) 0 (some (.lst ((rs.map rowP).map D.v ++ [.v (.lst (w.map stpP))])))) fun _ M' => N [some (.cell b), some (vS (45 :: ls)), some (vI top), some (vI (1 + r : Nat)), some (.cell (M.length + 0)), some (.cell (M.length + 1)), some x, some (.cell (M.length + (J.length + 2))), v8, v9, v10, some (vS t)] M' := by
        rintro en hen v rfl
        refine k_appAt ((getA d4.len 1).trans rfl) (by rw [List.length_map, List.length_map, sizeLine_eq]; omega) ?_
        rw [setA d4.len]
        refine hN _ _ ⟨rs ++ [w], es ++ [en], J ++ [none], M4, _, _, _, _, _, _, by rw [List.map_append, List.map_append, List.map_append, List.map_append]; rfl, d4, by rw [List.length_append, hrl]; rfl, by rw [List.length_append, hel]; rfl, fun w' hw' => ?_, fun w' hw' => ?_, fun u hu => ?_, rfl⟩
        · rcases List.mem_append.mp hw' with h | h
          · exact hw w' h
          · rw [List.mem_singleton.mp h]; exact hwl
        · rcases List.mem_append.mp hw' with h | h
          · exact hs w' h
          · rw [List.mem_singleton.mp h]; exact hws
        · rcases List.mem_append.mp hu with h | h
          · exact he u h
          · exact hen u (List.mem_singleton.mp h).symm
      refine ite2 (fun h => ?_) (fun h => ?_)
      · walk_at "dz"
        exact fin none (fun _ h => nomatch h) _ rfl
      · walk_at "dz"
        exact fin (some t) (fun _ h => by cases h; exact ⟨isW_of ht5, htl⟩) _ rfl
  · rintro ds M' ⟨rs, es, J, M2, v6, v7, v8, v9, v10, v11, rfl, d2, hrl, hel, hw, hs, he, rfl⟩
    rw [List.length_map, List.length_range] at hrl hel
    walk_at "dz"
    refine c_word 2 (d2.bg hb).app (by simp) (by rw [List.length_cons]; omega) (by decide) fun t M9 ht5 htl e9 _ => ?_
    obtain ⟨M5, rfl, e8⟩ := e9.app (by rw [d2.len]; exact hbl)
    have d5 := d2.trans e8
    walk_at "dz"
    refine ⟨_, _, frz_cell ((getA d5.len 0).trans rfl), ?_⟩
    have e0 : ∀ (L : Mem) y, (M5 ++ L).set M.length y = M5 ++ L.set 0 y := fun L y => setA d5.len 0 y
    rw [e0]
    walk_at "dz"
    refine ⟨_, _, frz_cell ((getA d5.len 1).trans rfl), ?_⟩
    rw [setA d5.len]
    walk_at "dz"
    exact x_bd_app d5 (q t rs es M5 ⟨by intro h; rw [h, List.length_nil] at hrl; omega, by omega, htl, isW_of ht5, hw, fun w hw' p u hu => by rw [hrl]; exact hs w hw' p u hu, he⟩ (by omega) d5)
end Cl
/-! Machines: calls, tables that are changed. -/
namespace Cl
open PySem PySem.Spec PyProof.Rows L2 He ClX
local macro_rules | `(tactic| walk_at "sz") => `(tactic| (rw [sizeLine_eq]; (try simp only [List.length_append, List.length_cons, List.length_nil, List.length_map, List.length_reverse]); omega))
local macro_rules | `(tactic| walk_at "ds") => `(tactic| repeat (first
  | with_reducible refine k_seq ?_
  | with_reducible refine k_asg ?_
  | with_reducible refine k_var (by with_unfolding_all exact rfl) ?_
  | with_reducible refine k_c ?_
  | with_reducible refine k_op ?_
  | with_reducible refine k_cons ?_
  | with_reducible refine k_nil ?_
  | with_reducible refine k_name ?_
  | with_reducible refine k_ifS ?_
  | with_reducible refine k_test ?_
  | with_reducible refine k_bl ?_
  | with_reducible refine iteT ?_
  | with_reducible refine iteF ?_
  | with_reducible refine k_nf ?_
  | with_reducible refine k_nt ?_
  | with_reducible refine k_ret ?_
  | with_reducible refine k_cb ?_
  | with_reducible refine k_call ?_
  | with_reducible refine k_not ?_
  | with_reducible refine k_and ?_
  | with_reducible refine k_or ?_
  | with_reducible refine k_drop ?_
  | with_reducible refine k_next ?_
  | with_reducible refine k_bm ?_
  | with_reducible refine k_tyS ?_
  | with_reducible refine k_un ?_
  | with_reducible refine k_neg ?_
  | with_reducible refine k_fld ?_
  | with_reducible refine k_meth ?_
  | with_reducible refine k_tru ?_
  | with_reducible refine k_truB ?_
  | with_reducible refine k_truL ?_
  | with_reducible refine k_sl ?_
  | with_reducible refine k_part ?_
  | with_reducible refine k_nopart ?_
  | with_reducible refine k_i ?_
  | with_reducible refine k_s ?_
  | with_reducible refine k_l ?_
  | with_reducible refine k_tu ?_
  | with_reducible refine k_tup ?_
  | with_reducible refine k_lst ?_
  | with_reducible refine k_pu (by with_unfolding_all exact rfl) (by walk_at "sz") ?_
  | with_reducible refine k_lstC ?_
  | with_reducible refine k_lc ?_
  | with_reducible refine k_yes ?_
  | with_reducible refine k_for ?_
  | with_reducible refine k_jstr ?_
  | with_reducible refine k_jlst ?_
  | with_reducible refine k_jtup ?_
  | with_reducible refine k_rng1 ?_
  | with_reducible refine k_if ?_
  | with_reducible refine k_andV ?_
  | with_reducible refine k_orV ?_
  | with_reducible refine k_notV ?_
  | with_reducible refine k_chain ?_
  | with_reducible refine k_raise ?_
  | with_reducible refine k_stf ?_
  | with_reducible refine k_frz ?_
  | with_reducible refine k_frzV _ ?_
  | with_reducible refine k_make ?_
  | with_reducible refine k_try ?_
  | with_reducible refine k_callI ?_
  | with_reducible refine k_callIS ?_
  | with_reducible refine k_xf ?_
  | with_reducible refine k_sub ?_
  | with_reducible refine k_fs ?_
  | with_reducible refine k_js ?_
  | with_reducible refine k_jnil ?_
  | with_reducible refine k_fmt ?_
  | with_reducible refine k_rev ?_
  | with_reducible refine k_lenSet ?_
  | with_reducible refine k_srtSet ?_
  | with_reducible refine k_gcons ?_
  | with_reducible refine k_gnil ?_
  | with_reducible refine k_gtup (by rfl) ?_
  | with_reducible refine k_addI ?_
  | with_reducible refine k_subI ?_
  | with_reducible refine k_lt ?_
  | with_reducible refine k_le ?_
  | with_reducible refine k_gt ?_
  | with_reducible refine k_ge ?_
  | with_reducible refine k_in ?_
  | with_reducible refine k_notin ?_
  | with_reducible refine k_isN ?_
  | with_reducible refine k_isnotN ?_
  | with_reducible refine k_isB ?_
  | with_reducible refine k_isnotB ?_
  | with_reducible refine k_int ?_
  | with_reducible refine k_intB ?_
  | with_reducible refine k_bool ?_
  | with_reducible refine k_neS ?_
  | with_reducible refine k_eqS ?_
  | with_reducible refine k_eq (by with_unfolding_all exact rfl) ?_
  | with_reducible refine k_ne (by with_unfolding_all exact rfl) ?_
  | with_reducible refine k_ixT (by with_unfolding_all exact rfl) ?_
  | with_reducible refine k_ixL (by with_unfolding_all exact rfl) ?_
  | with_reducible refine k_slL ?_
  | with_reducible refine k_lenL ?_
  | with_reducible refine k_lenT ?_
  | with_reducible refine k_listL ?_
  | with_reducible refine k_listT ?_
  | with_reducible refine k_fo (by with_unfolding_all exact rfl) ?_
  | with_reducible refine k_rng2 ?_
  | with_reducible refine k_star ?_
  | with_reducible refine k_makeR ?_
  | with_reducible refine k_cmeth ?_
  | with_reducible refine k_tupOf ?_
  | with_reducible refine k_tupT ?_
  | with_reducible refine k_tupL ?_
  | with_reducible refine k_cls ?_
  | with_reducible refine k_starT ?_
  | with_reducible refine k_starL ?_
  | with_reducible refine k_raise2 ?_
  | with_reducible refine k_raise0 ?_
  | with_reducible refine k_forG ?_
  | with_reducible refine k_jls ?_
  | with_reducible refine k_lcG ?_
  | with_reducible refine k_lcCG ?_
  | with_reducible refine k_gm1 ?_
  | with_reducible refine k_callSt ?_
  | with_reducible refine k_makeS ?_
  | with_reducible refine k_methS ?_
  | with_reducible refine k_sz (by walk_at "sz") ?_
  | with_reducible refine k_lenS (by walk_at "sz") ?_
  | with_reducible refine k_addS (by walk_at "sz") ?_
  | with_reducible refine k_slS (by walk_at "sz") ?_))
local macro_rules | `(tactic| walk_at "dz") => `(tactic| (walk_at "ds"; repeat (first
  | (with_reducible refine k_ixm0 ?_; walk_at "ds")
  | (with_reducible refine k_ixm1 ?_; walk_at "ds")
  | (with_reducible refine k_ixm2 ?_; walk_at "ds")
  | (with_reducible refine k_ixm3 ?_; walk_at "ds")
  | (with_reducible refine z_eq ?_; walk_at "ds")
  | (with_reducible refine z_neq ?_; walk_at "ds")
  | (with_reducible refine z_F (c := isNon (.v _)) (by with_unfolding_all exact rfl) ?_; walk_at "ds")
  | (with_reducible refine z_nF (c := isNon (.v _)) (by with_unfolding_all exact rfl) ?_; walk_at "ds")
  | (with_reducible refine z_T (c := isNon (.v _)) (by with_unfolding_all exact rfl) ?_; walk_at "ds")
  | (with_reducible refine z_nT (c := isNon (.v _)) (by with_unfolding_all exact rfl) ?_; walk_at "ds")
  | (with_reducible refine z_lnF (by first | omega | (simp; done) | (simp; omega)) ?_; walk_at "ds")
  | (with_reducible refine z_lnT (by first | omega | (simp; done) | (simp; omega)) ?_; walk_at "ds")
  | (with_reducible refine z_nlnF (by first | omega | (simp; done) | (simp; omega)) ?_; walk_at "ds")
  | (with_reducible refine z_nlnT (by first | omega | (simp; done) | (simp; omega)) ?_; walk_at "ds")
  | (with_reducible refine z_lgF (by first | omega | (simp; done) | (simp; omega)) ?_; walk_at "ds")
  | (with_reducible refine z_lgT (by first | omega | (simp; done) | (simp; omega)) ?_; walk_at "ds")
  | (with_reducible refine z_F (by decide) ?_; walk_at "ds")
  | (with_reducible refine z_T (by decide) ?_; walk_at "ds")
  | (with_reducible refine z_nF (by decide) ?_; walk_at "ds")
  | (with_reducible refine z_nT (by decide) ?_; walk_at "ds"))))
theorem snap_app {M L : Mem} : ∀ {n : Nat} {d : D} {x : PV}, snap M n d = some x → snap (M ++ L) n d = some x
  | n, .v y, x, h => by rw [snap_v] at h ⊢; exact h
  | 0, .cell _, _, h => by cases h
  | 0, .exn _, _, h => by cases h
  | n + 1, .exn _, _, h => by cases h
  | n + 1, .cell i, x, h => by
    have h' : (match M[i]? with | some (some (Cell.lst ds)) => (ds.mapM (snap M n)).map PV.lst | _ => none) = some x := h
    split at h'
    · rename_i ds m
      have hi : i < M.length := (List.getElem?_eq_some_iff.mp m).1
      cases hm : ds.mapM (snap M n) with
      | none => rw [hm] at h'; cases h'
      | some xs =>
        rw [hm] at h'
        cases h'
        refine snap_c (by rw [List.getElem?_append_left hi]; exact m) ?_
        have key : ∀ (ds : List D) (xs : List PV), ds.mapM (snap M n) = some xs → ds.mapM (snap (M ++ L) n) = some xs := by
          intro ds
          induction ds with
          | nil => intro xs h; exact h
          | cons d ds ih =>
            intro xs h
            rw [List.mapM_cons] at h
            cases hy : snap M n d with
            | none => rw [hy] at h; cases h
            | some y =>
              rw [hy] at h
              cases hz : ds.mapM (snap M n) with
              | none => rw [hz] at h; cases h
              | some zs =>
                rw [hz] at h
                cases h
                rw [List.mapM_cons, snap_app hy, ih _ hz]
                rfl
        exact key ds xs hm
    · cases h'
theorem OkT.chk {ls f : List Nat} {rs : List (List Stp)} {es : List (Option (List Nat))} {b : Nat} (ok : OkT ls f rs es b) : chkM ls f rs es = none := by
  unfold chkM
  rw [if_neg]
  · rw [Option.map_eq_none_iff, List.find?_eq_none]
    intro i hi
    rw [List.mem_range] at hi
    unfold badAt
    rw [List.getElem?_eq_getElem hi, List.getElem?_eq_getElem (by rw [← ok.le]; exact hi)]
    have hr := List.getElem_mem hi
    have he := List.getElem_mem (l := es) (n := i) (by rw [← ok.le]; exact hi)
    have h1 : (!decide (rs[i].length = ls.length + 1)) = false := by rw [decide_eq_true (ok.w _ hr)]; rfl
    have h2 : rs[i].any (badStp ls rs.length) = false := by
      rw [List.any_eq_false]
      intro s hs
      cases s with
      | none => simp [badStp]
      | some pt =>
        obtain ⟨p, t⟩ := pt
        obtain ⟨a1, a2, a3, _⟩ := ok.s _ hr p t hs
        simp [badStp, a1, a2, a3]
    have h3 : badEnd ls (es[i]'(by rw [← ok.le]; exact hi)) = false := by
      cases h : es[i]'(by rw [← ok.le]; exact hi) with
      | none => rfl
      | some t =>
        rw [h] at he
        have := (ok.e t he).1
        unfold badEnd
        dsimp only
        rw [this]
        rfl
    show ¬ ((!decide (rs[i].length = ls.length + 1) || rs[i].any (badStp ls rs.length)) || badEnd ls (es[i]'(by rw [← ok.le]; exact hi))) = true
    rw [h1, h2, h3]
    decide
  · rintro (h | h | h)
    · exact ok.ne h
    · exact h ok.le
    · rw [ok.fw] at h; cases h
theorem OkT.bnd {ls f : List Nat} {rs : List (List Stp)} {es : List (Option (List Nat))} {b : Nat} (ok : OkT ls f rs es b) (hb : b ≤ 1000) (hr : rs.length ≤ 1000) (hl : ls.length ≤ 60) : TabB f rs es :=
  ⟨Nat.le_trans ok.fl hb, hr, by rw [← ok.le]; exact hr, fun r h => by rw [ok.w r h]; omega, fun r h p t hp => Nat.le_trans (ok.s r h p t hp).2.2.2 hb, fun t h => Nat.le_trans (ok.e t h).2 hb⟩
theorem okL_char {ls : List Nat} (ol : okL ls) {c : Nat} (h : c ∈ 45 :: ls) : c < 1114112 := by
  have key : ∀ x ∈ small, x < 1114112 := by decide
  rcases List.mem_cons.mp h with rfl | h
  · decide
  · exact key c (ol.1 c h)
theorem isW_char {ls : List Nat} (ol : okL ls) {z : List Nat} (h : isW ls z = true) : ∀ c ∈ z, c < 1114112 := fun c hc => okL_char ol (isW_iff.mp h c hc)
theorem lay_str {n : Nat} {z : List Nat} (h : ∀ c ∈ z, c < 1114112) : (PV.str z).lay n = true := by
  cases n <;> (show z.all (· < 1114112) = true; rw [List.all_eq_true]; intro c hc; exact decide_eq_true (h c hc))
theorem OkT.asc {ls f : List Nat} {rs : List (List Stp)} {es : List (Option (List Nat))} {b : Nat} (ok : OkT ls f rs es b) (ol : okL ls) : ascT rs es := by
  constructor
  · show PV.layL 59 (rs.map rowP) = true
    rw [PV.layL_iff]
    intro x hx
    obtain ⟨r, hr, rfl⟩ := List.mem_map.mp hx
    show PV.layL 58 (r.map stpP) = true
    rw [PV.layL_iff]
    intro y hy
    obtain ⟨s, hs, rfl⟩ := List.mem_map.mp hy
    cases s with
    | none => rfl
    | some pt =>
      obtain ⟨p, t⟩ := pt
      show PV.layL 57 [.int p, .str t] = true
      rw [PV.layL_iff]
      intro z hz
      rcases List.mem_cons.mp hz with rfl | hz
      · rfl
      · rw [List.mem_singleton.mp hz]
        exact lay_str (isW_char ol (ok.s r hr p t hs).2.2.1)
  · show PV.layL 59 (es.map endP) = true
    rw [PV.layL_iff]
    intro x hx
    obtain ⟨r, hr, rfl⟩ := List.mem_map.mp hx
    cases r with
    | none => rfl
    | some t => exact lay_str (isW_char ol (ok.e t hr).1)
theorem OkT.mono {ls f : List Nat} {rs : List (List Stp)} {es : List (Option (List Nat))} {b c : Nat} (ok : OkT ls f rs es b) (h : b ≤ c) : OkT ls f rs es c :=
  ⟨ok.ne, ok.le, Nat.le_trans ok.fl h, ok.fw, ok.w, fun r hr p t ht => let ⟨a1, a2, a3, a4⟩ := ok.s r hr p t ht; ⟨a1, a2, a3, Nat.le_trans a4 h⟩, fun t ht => let ⟨a1, a2⟩ := ok.e t ht; ⟨a1, Nat.le_trans a2 h⟩⟩
theorem OkT.first {ls f g : List Nat} {rs : List (List Stp)} {es : List (Option (List Nat))} {b : Nat} (ok : OkT ls f rs es b) (h : isW ls g = true) (hl : g.length ≤ b) : OkT ls g rs es b := ⟨ok.ne, ok.le, hl, h, ok.w, ok.s, ok.e⟩
theorem snap_vl {M : Mem} {i : Nat} {xs : List PV} {n : Nat} (m : M[i]? = some (some (.lst (xs.map D.v)))) : snap M (n + 1) (.cell i) = some (.lst xs) := snap_c m (snap_vs xs)
theorem k_subAt {M : Mem} {i n : Nat} {ys : List D} {y : D} {P : Mem → Prop} (m : M[i]? = some (some (.lst ys))) (hn : n < ys.length) (h : P (M.set i (some (.lst (ys.set n y))))) :
    ∃ k es j l, D.cell i = .cell k ∧ vI (n : Int) = vI j ∧ M[k]? = some (some (.lst es)) ∧ ixN es.length j = some l ∧ P (M.set k (some (.lst (es.set l y)))) := ⟨i, ys, n, n, rfl, rfl, m, ixN_nat hn, h⟩
theorem got_map {α β : Type} {f : α → β} {xs : List α} {k : Nat} {y : β} (h : (xs.map f)[k]? = some y) : ∃ x, xs[k]? = some x ∧ y = f x := by
  rw [List.getElem?_map] at h
  cases e : xs[k]? with
  | none => rw [e] at h; cases h
  | some x => rw [e] at h; cases h; exact ⟨x, rfl, rfl⟩
end Cl
/-! Layer of values: steps for dicts that are cells, for while; comprehensions that change nothing. -/
namespace Cl
open PySem PySem.Spec PyProof.Rows L2 He ClX
section
variable {ds : DSt} {M : Mem} {Q : DQ} {E : DEnds} {o i v k a b : DE} {t : DT} {bb : DS}
theorem k_putK (h : v ds M fun d M1 => o ds M1 fun x M2 => i ds M2 fun y M3 => ∃ n k kvs, x = .cell n ∧ y = kD k ∧ M3[n]? = some (some (.dct kvs)) ∧ kvs.length < sizeLine ∧ E.nx ds (M3.set n (some (.dct (putG kvs k d))))) : dPutK o i v E ds M := h
theorem k_putN {hs : PV → Int} (h : v ds M fun d M1 => o ds M1 fun x M2 => i ds M2 fun y M3 => ∃ n k kvs kvs', x = .cell n ∧ y = .v k ∧ kOk k ∧ IsN hs M3 n kvs ∧ putD k d kvs kvs' ∧ E.nx ds (M3.set n (some (.dnn (dnE hs kvs'))))) : dPutN hs o i v E ds M := h
theorem k_newK (h : Q (.cell M.length) (M ++ [some (.dct [])])) : dNewK ds M Q := h
theorem k_newN (h : Q (.cell M.length) (M ++ [some (.dnn [])])) : dNewN ds M Q := h
theorem k_dispC {ps : List (DE × DE)} (h : dPairs ps ds M fun qs M1 => ∃ kvs : List (Key × D), qs = kvs.map (fun kv => (kD kv.1, kv.2)) ∧ kvs.length ≤ 15 ∧ Alive M M1 ∧ Q (.cell M1.length) (M1 ++ [some (.dct (mergeG kvs))])) : dDispC ps ds M Q := h
theorem k_pnil {R : List (D × D) → Mem → Prop} (h : R [] M) : dPairs [] ds M R := h
theorem k_pcons {ps : List (DE × DE)} {R : List (D × D) → Mem → Prop} (h : a ds M fun x M1 => b ds M1 fun y M2 => dPairs ps ds M2 fun ps M3 => R ((x, y) :: ps) M3) : dPairs ((a, b) :: ps) ds M R := h
theorem k_dispN {hs : PV → Int} (h : a ds M fun x M1 => b ds M1 fun y M2 => ∃ z d, [(x, y)] = [((.v z : D), d)] ∧ kOk z ∧ Alive M M2 ∧ Q (.cell M2.length) (M2 ++ [some (.dnn (dnE hs [(z, d)]))])) : dDispN hs a b ds M Q := h
theorem k_get2 (h : o ds M fun x M1 => (∃ kvs, dcOf M1 x = some kvs) ∧ a ds M1 fun y M2 => b ds M2 fun z M3 => ∃ k kvs, y = kD k ∧ dcOf M3 x = some kvs ∧ Q ((getG kvs k).getD z) M3) : dDGet2 o a b ds M Q := h
theorem k_gtup2 {gs : DGs} {x y : PV} {QS : DSt → Mem → Prop} (h : gs [.v x, .v y] ds M QS) : hTup 2 gs (vT [x, y]) ds M QS := ⟨_, rfl, rfl, h⟩
theorem k_gtup3 {gs : DGs} {x y z : PV} {QS : DSt → Mem → Prop} (h : gs [.v x, .v y, .v z] ds M QS) : hTup 3 gs (vT [x, y, z]) ds M QS := ⟨_, rfl, rfl, h⟩
theorem k_gtup4 {gs : DGs} {x y z u : PV} {QS : DSt → Mem → Prop} (h : gs [.v x, .v y, .v z, .v u] ds M QS) : hTup 4 gs (vT [x, y, z, u]) ds M QS := ⟨_, rfl, rfl, h⟩
end
/-! ### dicts from numbers -/
/-! ### comprehensions that change nothing -/
section
variable {i : Nat} {ds : DSt} {M : Mem} {P : List PV → Mem → Prop} {te : DE} {tt : DT}
theorem compG_filtA {α : Type} {G : Mem → Prop} (inj : α → D) (xs : List α) (keep : α → Bool) (f : α → PV) (hi : i < ds.length) (hl : xs.length ≤ sizeLine) (hG : G M) (htt : ∀ x ∈ xs, ∀ QB : Bool → Mem → Prop, QB (keep x) M → tt (ds.set i (some (inj x))) M QB) (hte : ∀ x ∈ xs, keep x = true → ∀ Q : DQ, Q (.v (f x)) M → te (ds.set i (some (inj x))) M Q) (h : P ((xs.filter keep).map f) M) :
    dCompG G (hName i) tt te ds P (xs.map inj) [] M := by
  refine compG_inv (fun k acc M' => M' = M ∧ acc = ((xs.take k).filter keep).map f) ⟨rfl, rfl⟩ (fun _ _ _ q => by rw [q.1]; exact hG) ?_ ?_
  · rintro k y acc M' N hy ⟨rfl, rfl⟩ hN
    obtain ⟨x, hx, rfl⟩ := got_map hy
    have hm := List.mem_of_getElem? hx
    have hk := (List.getElem?_eq_some_iff.mp hx).1
    refine k_name (htt x hm _ ?_)
    have tk : xs.take (k + 1) = xs.take k ++ [x] := by rw [List.take_add_one, hx]; rfl
    cases e : keep x with
    | true =>
      rw [if_pos rfl]
      refine hte x hm e _ ⟨f x, rfl, ?_, hN _ _ ⟨rfl, ?_⟩⟩
      · rw [List.length_map]
        have := List.length_filter_le keep (xs.take k)
        rw [List.length_take] at this
        omega
      · rw [tk, List.filter_append, List.map_append, List.filter_cons_of_pos e]; rfl
    | false =>
      rw [if_neg Bool.false_ne_true]
      refine hN _ _ ⟨rfl, ?_⟩
      rw [tk, List.filter_append, List.map_append, List.filter_cons_of_neg (by rw [e]; exact Bool.false_ne_true)]
      simp
  · rintro acc M' ⟨rfl, rfl⟩
    rw [List.length_map, List.take_length]
    exact h
theorem compG_mapA {α : Type} {G : Mem → Prop} (inj : α → D) (xs : List α) (f : α → PV) (hi : i < ds.length) (hl : xs.length ≤ sizeLine) (hG : G M) (hte : ∀ x ∈ xs, ∀ Q : DQ, Q (.v (f x)) M → te (ds.set i (some (inj x))) M Q) (h : P (xs.map f) M) : dCompG G (hName i) dYes te ds P (xs.map inj) [] M :=
  compG_filtA inj xs (fun _ => true) f hi hl hG (fun x _ QB q => k_yes q) (fun x hx _ => hte x hx) (by rw [List.filter_eq_self.mpr fun _ _ => rfl]; exact h)
end
end Cl
/-! Tables of stocks: the defs keep their promises. -/
namespace Cl
open PySem PySem.Spec PyProof.Rows L2 He ClX
local macro_rules | `(tactic| walk_at "sz") => `(tactic| (rw [sizeLine_eq]; (try simp only [List.length_append, List.length_cons, List.length_nil, List.length_map, List.length_reverse]); omega))
local macro_rules | `(tactic| walk_at "ds") => `(tactic| repeat (first
  | with_reducible refine k_seq ?_
  | with_reducible refine k_asg ?_
  | with_reducible refine k_var (by with_unfolding_all exact rfl) ?_
  | with_reducible refine k_c ?_
  | with_reducible refine k_op ?_
  | with_reducible refine k_cons ?_
  | with_reducible refine k_nil ?_
  | with_reducible refine k_name ?_
  | with_reducible refine k_ifS ?_
  | with_reducible refine k_test ?_
  | with_reducible refine k_bl ?_
  | with_reducible refine iteT ?_
  | with_reducible refine iteF ?_
  | with_reducible refine k_nf ?_
  | with_reducible refine k_nt ?_
  | with_reducible refine k_ret ?_
  | with_reducible refine k_cb ?_
  | with_reducible refine k_call ?_
  | with_reducible refine k_not ?_
  | with_reducible refine k_and ?_
  | with_reducible refine k_or ?_
  | with_reducible refine k_drop ?_
  | with_reducible refine k_next ?_
  | with_reducible refine k_bm ?_
  | with_reducible refine k_tyS ?_
  | with_reducible refine k_un ?_
  | with_reducible refine k_neg ?_
  | with_reducible refine k_fld ?_
  | with_reducible refine k_meth ?_
  | with_reducible refine k_tru ?_
  | with_reducible refine k_truB ?_
  | with_reducible refine k_truL ?_
  | with_reducible refine k_sl ?_
  | with_reducible refine k_part ?_
  | with_reducible refine k_nopart ?_
  | with_reducible refine k_i ?_
  | with_reducible refine k_s ?_
  | with_reducible refine k_l ?_
  | with_reducible refine k_tu ?_
  | with_reducible refine k_tup ?_
  | with_reducible refine k_lst ?_
  | with_reducible refine k_pu (by with_unfolding_all exact rfl) (by walk_at "sz") ?_
  | with_reducible refine k_lstC ?_
  | with_reducible refine k_lc ?_
  | with_reducible refine k_yes ?_
  | with_reducible refine k_for ?_
  | with_reducible refine k_jstr ?_
  | with_reducible refine k_jlst ?_
  | with_reducible refine k_jtup ?_
  | with_reducible refine k_rng1 ?_
  | with_reducible refine k_if ?_
  | with_reducible refine k_andV ?_
  | with_reducible refine k_orV ?_
  | with_reducible refine k_notV ?_
  | with_reducible refine k_chain ?_
  | with_reducible refine k_raise ?_
  | with_reducible refine k_stf ?_
  | with_reducible refine k_frz ?_
  | with_reducible refine k_frzV _ ?_
  | with_reducible refine k_make ?_
  | with_reducible refine k_try ?_
  | with_reducible refine k_callI ?_
  | with_reducible refine k_callIS ?_
  | with_reducible refine k_xf ?_
  | with_reducible refine k_sub ?_
  | with_reducible refine k_fs ?_
  | with_reducible refine k_js ?_
  | with_reducible refine k_jnil ?_
  | with_reducible refine k_fmt ?_
  | with_reducible refine k_rev ?_
  | with_reducible refine k_lenSet ?_
  | with_reducible refine k_srtSet ?_
  | with_reducible refine k_gcons ?_
  | with_reducible refine k_gnil ?_
  | with_reducible refine k_gtup (by rfl) ?_
  | with_reducible refine k_addI ?_
  | with_reducible refine k_subI ?_
  | with_reducible refine k_lt ?_
  | with_reducible refine k_le ?_
  | with_reducible refine k_gt ?_
  | with_reducible refine k_ge ?_
  | with_reducible refine k_in ?_
  | with_reducible refine k_notin ?_
  | with_reducible refine k_isN ?_
  | with_reducible refine k_isnotN ?_
  | with_reducible refine k_isB ?_
  | with_reducible refine k_isnotB ?_
  | with_reducible refine k_int ?_
  | with_reducible refine k_intB ?_
  | with_reducible refine k_bool ?_
  | with_reducible refine k_neS ?_
  | with_reducible refine k_eqS ?_
  | with_reducible refine k_eq (by with_unfolding_all exact rfl) ?_
  | with_reducible refine k_ne (by with_unfolding_all exact rfl) ?_
  | with_reducible refine k_ixT (by with_unfolding_all exact rfl) ?_
  | with_reducible refine k_ixL (by with_unfolding_all exact rfl) ?_
  | with_reducible refine k_slL ?_
  | with_reducible refine k_lenL ?_
  | with_reducible refine k_lenT ?_
  | with_reducible refine k_listL ?_
  | with_reducible refine k_listT ?_
  | with_reducible refine k_fo (by with_unfolding_all exact rfl) ?_
  | with_reducible refine k_rng2 ?_
  | with_reducible refine k_star ?_
  | with_reducible refine k_makeR ?_
  | with_reducible refine k_cmeth ?_
  | with_reducible refine k_tupOf ?_
  | with_reducible refine k_tupT ?_
  | with_reducible refine k_tupL ?_
  | with_reducible refine k_cls ?_
  | with_reducible refine k_starT ?_
  | with_reducible refine k_starL ?_
  | with_reducible refine k_raise2 ?_
  | with_reducible refine k_raise0 ?_
  | with_reducible refine k_forG ?_
  | with_reducible refine k_jls ?_
  | with_reducible refine k_lcG ?_
  | with_reducible refine k_lcCG ?_
  | with_reducible refine k_gtup2 ?_
  | with_reducible refine k_gtup3 ?_
  | with_reducible refine k_gtup4 ?_
  | with_reducible refine k_putK ?_
  | with_reducible refine k_putN ?_
  | with_reducible refine k_newK ?_
  | with_reducible refine k_newN ?_
  | with_reducible refine k_dispC ?_
  | with_reducible refine k_pcons ?_
  | with_reducible refine k_pnil ?_
  | with_reducible refine k_dispN ?_
  | with_reducible refine k_get2 ?_
  | with_reducible refine k_lcC ?_
  | with_reducible refine k_gm1 ?_
  | with_reducible refine k_callSt ?_
  | with_reducible refine k_makeS ?_
  | with_reducible refine k_methS ?_
  | with_reducible refine k_sz (by walk_at "sz") ?_
  | with_reducible refine k_lenS (by walk_at "sz") ?_
  | with_reducible refine k_addS (by walk_at "sz") ?_
  | with_reducible refine k_slS (by walk_at "sz") ?_))
local macro_rules | `(tactic| walk_at "dz") => `(tactic| (walk_at "ds"; repeat (first
  | (with_reducible refine k_ixm0 ?_; walk_at "ds")
  | (with_reducible refine k_ixm1 ?_; walk_at "ds")
  | (with_reducible refine k_ixm2 ?_; walk_at "ds")
  | (with_reducible refine k_ixm3 ?_; walk_at "ds")
  | (with_reducible refine z_eq ?_; walk_at "ds")
  | (with_reducible refine z_neq ?_; walk_at "ds")
  | (with_reducible refine z_F (c := isNon (.v _)) (by with_unfolding_all exact rfl) ?_; walk_at "ds")
  | (with_reducible refine z_nF (c := isNon (.v _)) (by with_unfolding_all exact rfl) ?_; walk_at "ds")
  | (with_reducible refine z_T (c := isNon (.v _)) (by with_unfolding_all exact rfl) ?_; walk_at "ds")
  | (with_reducible refine z_nT (c := isNon (.v _)) (by with_unfolding_all exact rfl) ?_; walk_at "ds")
  | (with_reducible refine z_lnF (by first | omega | (simp; done) | (simp; omega)) ?_; walk_at "ds")
  | (with_reducible refine z_lnT (by first | omega | (simp; done) | (simp; omega)) ?_; walk_at "ds")
  | (with_reducible refine z_nlnF (by first | omega | (simp; done) | (simp; omega)) ?_; walk_at "ds")
  | (with_reducible refine z_nlnT (by first | omega | (simp; done) | (simp; omega)) ?_; walk_at "ds")
  | (with_reducible refine z_lgF (by first | omega | (simp; done) | (simp; omega)) ?_; walk_at "ds")
  | (with_reducible refine z_lgT (by first | omega | (simp; done) | (simp; omega)) ?_; walk_at "ds")
  | (with_reducible refine z_F (by decide) ?_; walk_at "ds")
  | (with_reducible refine z_T (by decide) ?_; walk_at "ds")
  | (with_reducible refine z_nF (by decide) ?_; walk_at "ds")
  | (with_reducible refine z_nT (by decide) ?_; walk_at "ds"))))
end Cl
/-! Tables of stocks: refine keeps its promise. -/
namespace Cl
open PySem PySem.Spec PyProof.Rows L2 He ClX
local macro_rules | `(tactic| walk_at "sz") => `(tactic| (rw [sizeLine_eq]; (try simp only [List.length_append, List.length_cons, List.length_nil, List.length_map, List.length_reverse]); omega))
local macro_rules | `(tactic| walk_at "ds") => `(tactic| repeat (first
  | with_reducible refine k_seq ?_
  | with_reducible refine k_asg ?_
  | with_reducible refine k_var (by with_unfolding_all exact rfl) ?_
  | with_reducible refine k_c ?_
  | with_reducible refine k_op ?_
  | with_reducible refine k_cons ?_
  | with_reducible refine k_nil ?_
  | with_reducible refine k_name ?_
  | with_reducible refine k_ifS ?_
  | with_reducible refine k_test ?_
  | with_reducible refine k_bl ?_
  | with_reducible refine iteT ?_
  | with_reducible refine iteF ?_
  | with_reducible refine k_nf ?_
  | with_reducible refine k_nt ?_
  | with_reducible refine k_ret ?_
  | with_reducible refine k_cb ?_
  | with_reducible refine k_call ?_
  | with_reducible refine k_not ?_
  | with_reducible refine k_and ?_
  | with_reducible refine k_or ?_
  | with_reducible refine k_drop ?_
  | with_reducible refine k_next ?_
  | with_reducible refine k_bm ?_
  | with_reducible refine k_tyS ?_
  | with_reducible refine k_un ?_
  | with_reducible refine k_neg ?_
  | with_reducible refine k_fld ?_
  | with_reducible refine k_meth ?_
  | with_reducible refine k_tru ?_
  | with_reducible refine k_truB ?_
  | with_reducible refine k_truL ?_
  | with_reducible refine k_sl ?_
  | with_reducible refine k_part ?_
  | with_reducible refine k_nopart ?_
  | with_reducible refine k_i ?_
  | with_reducible refine k_s ?_
  | with_reducible refine k_l ?_
  | with_reducible refine k_tu ?_
  | with_reducible refine k_tup ?_
  | with_reducible refine k_lst ?_
  | with_reducible refine k_pu (by with_unfolding_all exact rfl) (by walk_at "sz") ?_
  | with_reducible refine k_lstC ?_
  | with_reducible refine k_lc ?_
  | with_reducible refine k_yes ?_
  | with_reducible refine k_for ?_
  | with_reducible refine k_jstr ?_
  | with_reducible refine k_jlst ?_
  | with_reducible refine k_jtup ?_
  | with_reducible refine k_rng1 ?_
  | with_reducible refine k_if ?_
  | with_reducible refine k_andV ?_
  | with_reducible refine k_orV ?_
  | with_reducible refine k_notV ?_
  | with_reducible refine k_chain ?_
  | with_reducible refine k_raise ?_
  | with_reducible refine k_stf ?_
  | with_reducible refine k_frz ?_
  | with_reducible refine k_frzV _ ?_
  | with_reducible refine k_make ?_
  | with_reducible refine k_try ?_
  | with_reducible refine k_callI ?_
  | with_reducible refine k_callIS ?_
  | with_reducible refine k_xf ?_
  | with_reducible refine k_sub ?_
  | with_reducible refine k_fs ?_
  | with_reducible refine k_js ?_
  | with_reducible refine k_jnil ?_
  | with_reducible refine k_fmt ?_
  | with_reducible refine k_rev ?_
  | with_reducible refine k_lenSet ?_
  | with_reducible refine k_srtSet ?_
  | with_reducible refine k_gcons ?_
  | with_reducible refine k_gnil ?_
  | with_reducible refine k_gtup (by rfl) ?_
  | with_reducible refine k_addI ?_
  | with_reducible refine k_subI ?_
  | with_reducible refine k_lt ?_
  | with_reducible refine k_le ?_
  | with_reducible refine k_gt ?_
  | with_reducible refine k_ge ?_
  | with_reducible refine k_in ?_
  | with_reducible refine k_notin ?_
  | with_reducible refine k_isN ?_
  | with_reducible refine k_isnotN ?_
  | with_reducible refine k_isB ?_
  | with_reducible refine k_isnotB ?_
  | with_reducible refine k_int ?_
  | with_reducible refine k_intB ?_
  | with_reducible refine k_bool ?_
  | with_reducible refine k_neS ?_
  | with_reducible refine k_eqS ?_
  | with_reducible refine k_eq (by with_unfolding_all exact rfl) ?_
  | with_reducible refine k_ne (by with_unfolding_all exact rfl) ?_
  | with_reducible refine k_ixT (by with_unfolding_all exact rfl) ?_
  | with_reducible refine k_ixL (by with_unfolding_all exact rfl) ?_
  | with_reducible refine k_slL ?_
  | with_reducible refine k_lenL ?_
  | with_reducible refine k_lenT ?_
  | with_reducible refine k_listL ?_
  | with_reducible refine k_listT ?_
  | with_reducible refine k_fo (by with_unfolding_all exact rfl) ?_
  | with_reducible refine k_rng2 ?_
  | with_reducible refine k_star ?_
  | with_reducible refine k_makeR ?_
  | with_reducible refine k_cmeth ?_
  | with_reducible refine k_tupOf ?_
  | with_reducible refine k_tupT ?_
  | with_reducible refine k_tupL ?_
  | with_reducible refine k_cls ?_
  | with_reducible refine k_starT ?_
  | with_reducible refine k_starL ?_
  | with_reducible refine k_raise2 ?_
  | with_reducible refine k_raise0 ?_
  | with_reducible refine k_forG ?_
  | with_reducible refine k_jls ?_
  | with_reducible refine k_lcG ?_
  | with_reducible refine k_lcCG ?_
  | with_reducible refine k_gtup2 ?_
  | with_reducible refine k_gtup3 ?_
  | with_reducible refine k_gtup4 ?_
  | with_reducible refine k_putK ?_
  | with_reducible refine k_putN ?_
  | with_reducible refine k_newK ?_
  | with_reducible refine k_newN ?_
  | with_reducible refine k_dispC ?_
  | with_reducible refine k_pcons ?_
  | with_reducible refine k_pnil ?_
  | with_reducible refine k_dispN ?_
  | with_reducible refine k_get2 ?_
  | with_reducible refine k_lcC ?_
  | with_reducible refine k_gm1 ?_
  | with_reducible refine k_callSt ?_
  | with_reducible refine k_makeS ?_
  | with_reducible refine k_methS ?_
  | with_reducible refine k_sz (by walk_at "sz") ?_
  | with_reducible refine k_lenS (by walk_at "sz") ?_
  | with_reducible refine k_addS (by walk_at "sz") ?_
  | with_reducible refine k_slS (by walk_at "sz") ?_))
local macro_rules | `(tactic| walk_at "dz") => `(tactic| (walk_at "ds"; repeat (first
  | (with_reducible refine k_ixm0 ?_; walk_at "ds")
  | (with_reducible refine k_ixm1 ?_; walk_at "ds")
  | (with_reducible refine k_ixm2 ?_; walk_at "ds")
  | (with_reducible refine k_ixm3 ?_; walk_at "ds")
  | (with_reducible refine z_eq ?_; walk_at "ds")
  | (with_reducible refine z_neq ?_; walk_at "ds")
  | (with_reducible refine z_F (c := isNon (.v _)) (by with_unfolding_all exact rfl) ?_; walk_at "ds")
  | (with_reducible refine z_nF (c := isNon (.v _)) (by with_unfolding_all exact rfl) ?_; walk_at "ds")
  | (with_reducible refine z_T (c := isNon (.v _)) (by with_unfolding_all exact rfl) ?_; walk_at "ds")
  | (with_reducible refine z_nT (c := isNon (.v _)) (by with_unfolding_all exact rfl) ?_; walk_at "ds")
  | (with_reducible refine z_lnF (by first | omega | (simp; done) | (simp; omega)) ?_; walk_at "ds")
  | (with_reducible refine z_lnT (by first | omega | (simp; done) | (simp; omega)) ?_; walk_at "ds")
  | (with_reducible refine z_nlnF (by first | omega | (simp; done) | (simp; omega)) ?_; walk_at "ds")
  | (with_reducible refine z_nlnT (by first | omega | (simp; done) | (simp; omega)) ?_; walk_at "ds")
  | (with_reducible refine z_lgF (by first | omega | (simp; done) | (simp; omega)) ?_; walk_at "ds")
  | (with_reducible refine z_lgT (by first | omega | (simp; done) | (simp; omega)) ?_; walk_at "ds")
  | (with_reducible refine z_F (by decide) ?_; walk_at "ds")
  | (with_reducible refine z_T (by decide) ?_; walk_at "ds")
  | (with_reducible refine z_nF (by decide) ?_; walk_at "ds")
  | (with_reducible refine z_nT (by decide) ?_; walk_at "ds"))))
end Cl
/-! Tables of stocks: merged, least_table, check_table, Stock. -/
namespace Cl
open PySem PySem.Spec PyProof.Rows L2 He ClX
local macro_rules | `(tactic| walk_at "sz") => `(tactic| (rw [sizeLine_eq]; (try simp only [List.length_append, List.length_cons, List.length_nil, List.length_map, List.length_reverse]); omega))
local macro_rules | `(tactic| walk_at "ds") => `(tactic| repeat (first
  | with_reducible refine k_seq ?_
  | with_reducible refine k_asg ?_
  | with_reducible refine k_var (by with_unfolding_all exact rfl) ?_
  | with_reducible refine k_c ?_
  | with_reducible refine k_op ?_
  | with_reducible refine k_cons ?_
  | with_reducible refine k_nil ?_
  | with_reducible refine k_name ?_
  | with_reducible refine k_ifS ?_
  | with_reducible refine k_test ?_
  | with_reducible refine k_bl ?_
  | with_reducible refine iteT ?_
  | with_reducible refine iteF ?_
  | with_reducible refine k_nf ?_
  | with_reducible refine k_nt ?_
  | with_reducible refine k_ret ?_
  | with_reducible refine k_cb ?_
  | with_reducible refine k_call ?_
  | with_reducible refine k_not ?_
  | with_reducible refine k_and ?_
  | with_reducible refine k_or ?_
  | with_reducible refine k_drop ?_
  | with_reducible refine k_next ?_
  | with_reducible refine k_bm ?_
  | with_reducible refine k_tyS ?_
  | with_reducible refine k_un ?_
  | with_reducible refine k_neg ?_
  | with_reducible refine k_fld ?_
  | with_reducible refine k_meth ?_
  | with_reducible refine k_tru ?_
  | with_reducible refine k_truB ?_
  | with_reducible refine k_truL ?_
  | with_reducible refine k_sl ?_
  | with_reducible refine k_part ?_
  | with_reducible refine k_nopart ?_
  | with_reducible refine k_i ?_
  | with_reducible refine k_s ?_
  | with_reducible refine k_l ?_
  | with_reducible refine k_tu ?_
  | with_reducible refine k_tup ?_
  | with_reducible refine k_lst ?_
  | with_reducible refine k_pu (by with_unfolding_all exact rfl) (by walk_at "sz") ?_
  | with_reducible refine k_lstC ?_
  | with_reducible refine k_lc ?_
  | with_reducible refine k_yes ?_
  | with_reducible refine k_for ?_
  | with_reducible refine k_jstr ?_
  | with_reducible refine k_jlst ?_
  | with_reducible refine k_jtup ?_
  | with_reducible refine k_rng1 ?_
  | with_reducible refine k_if ?_
  | with_reducible refine k_andV ?_
  | with_reducible refine k_orV ?_
  | with_reducible refine k_notV ?_
  | with_reducible refine k_chain ?_
  | with_reducible refine k_raise ?_
  | with_reducible refine k_stf ?_
  | with_reducible refine k_frz ?_
  | with_reducible refine k_frzV _ ?_
  | with_reducible refine k_make ?_
  | with_reducible refine k_try ?_
  | with_reducible refine k_callI ?_
  | with_reducible refine k_callIS ?_
  | with_reducible refine k_xf ?_
  | with_reducible refine k_sub ?_
  | with_reducible refine k_fs ?_
  | with_reducible refine k_js ?_
  | with_reducible refine k_jnil ?_
  | with_reducible refine k_fmt ?_
  | with_reducible refine k_rev ?_
  | with_reducible refine k_lenSet ?_
  | with_reducible refine k_srtSet ?_
  | with_reducible refine k_gcons ?_
  | with_reducible refine k_gnil ?_
  | with_reducible refine k_gtup (by rfl) ?_
  | with_reducible refine k_addI ?_
  | with_reducible refine k_subI ?_
  | with_reducible refine k_lt ?_
  | with_reducible refine k_le ?_
  | with_reducible refine k_gt ?_
  | with_reducible refine k_ge ?_
  | with_reducible refine k_in ?_
  | with_reducible refine k_notin ?_
  | with_reducible refine k_isN ?_
  | with_reducible refine k_isnotN ?_
  | with_reducible refine k_isB ?_
  | with_reducible refine k_isnotB ?_
  | with_reducible refine k_int ?_
  | with_reducible refine k_intB ?_
  | with_reducible refine k_bool ?_
  | with_reducible refine k_neS ?_
  | with_reducible refine k_eqS ?_
  | with_reducible refine k_eq (by with_unfolding_all exact rfl) ?_
  | with_reducible refine k_ne (by with_unfolding_all exact rfl) ?_
  | with_reducible refine k_ixT (by with_unfolding_all exact rfl) ?_
  | with_reducible refine k_ixL (by with_unfolding_all exact rfl) ?_
  | with_reducible refine k_slL ?_
  | with_reducible refine k_lenL ?_
  | with_reducible refine k_lenT ?_
  | with_reducible refine k_listL ?_
  | with_reducible refine k_listT ?_
  | with_reducible refine k_fo (by with_unfolding_all exact rfl) ?_
  | with_reducible refine k_rng2 ?_
  | with_reducible refine k_star ?_
  | with_reducible refine k_makeR ?_
  | with_reducible refine k_cmeth ?_
  | with_reducible refine k_tupOf ?_
  | with_reducible refine k_tupT ?_
  | with_reducible refine k_tupL ?_
  | with_reducible refine k_cls ?_
  | with_reducible refine k_starT ?_
  | with_reducible refine k_starL ?_
  | with_reducible refine k_raise2 ?_
  | with_reducible refine k_raise0 ?_
  | with_reducible refine k_forG ?_
  | with_reducible refine k_jls ?_
  | with_reducible refine k_lcG ?_
  | with_reducible refine k_lcCG ?_
  | with_reducible refine k_gtup2 ?_
  | with_reducible refine k_gtup3 ?_
  | with_reducible refine k_gtup4 ?_
  | with_reducible refine k_putK ?_
  | with_reducible refine k_putN ?_
  | with_reducible refine k_newK ?_
  | with_reducible refine k_newN ?_
  | with_reducible refine k_dispC ?_
  | with_reducible refine k_pcons ?_
  | with_reducible refine k_pnil ?_
  | with_reducible refine k_dispN ?_
  | with_reducible refine k_get2 ?_
  | with_reducible refine k_lcC ?_
  | with_reducible refine k_gm1 ?_
  | with_reducible refine k_callSt ?_
  | with_reducible refine k_makeS ?_
  | with_reducible refine k_methS ?_
  | with_reducible refine k_sz (by walk_at "sz") ?_
  | with_reducible refine k_lenS (by walk_at "sz") ?_
  | with_reducible refine k_addS (by walk_at "sz") ?_
  | with_reducible refine k_slS (by walk_at "sz") ?_))
local macro_rules | `(tactic| walk_at "dz") => `(tactic| (walk_at "ds"; repeat (first
  | (with_reducible refine k_ixm0 ?_; walk_at "ds")
  | (with_reducible refine k_ixm1 ?_; walk_at "ds")
  | (with_reducible refine k_ixm2 ?_; walk_at "ds")
  | (with_reducible refine k_ixm3 ?_; walk_at "ds")
  | (with_reducible refine z_eq ?_; walk_at "ds")
  | (with_reducible refine z_neq ?_; walk_at "ds")
  | (with_reducible refine z_F (c := isNon (.v _)) (by with_unfolding_all exact rfl) ?_; walk_at "ds")
  | (with_reducible refine z_nF (c := isNon (.v _)) (by with_unfolding_all exact rfl) ?_; walk_at "ds")
  | (with_reducible refine z_T (c := isNon (.v _)) (by with_unfolding_all exact rfl) ?_; walk_at "ds")
  | (with_reducible refine z_nT (c := isNon (.v _)) (by with_unfolding_all exact rfl) ?_; walk_at "ds")
  | (with_reducible refine z_lnF (by first | omega | (simp; done) | (simp; omega)) ?_; walk_at "ds")
  | (with_reducible refine z_lnT (by first | omega | (simp; done) | (simp; omega)) ?_; walk_at "ds")
  | (with_reducible refine z_nlnF (by first | omega | (simp; done) | (simp; omega)) ?_; walk_at "ds")
  | (with_reducible refine z_nlnT (by first | omega | (simp; done) | (simp; omega)) ?_; walk_at "ds")
  | (with_reducible refine z_lgF (by first | omega | (simp; done) | (simp; omega)) ?_; walk_at "ds")
  | (with_reducible refine z_lgT (by first | omega | (simp; done) | (simp; omega)) ?_; walk_at "ds")
  | (with_reducible refine z_F (by decide) ?_; walk_at "ds")
  | (with_reducible refine z_T (by decide) ?_; walk_at "ds")
  | (with_reducible refine z_nF (by decide) ?_; walk_at "ds")
  | (with_reducible refine z_nT (by decide) ?_; walk_at "ds"))))
/-! ### pure -/
end Cl
/-! Tables of stocks: least_table, check_table, Stock. -/
namespace Cl
open PySem PySem.Spec PyProof.Rows L2 He ClX
local macro_rules | `(tactic| walk_at "sz") => `(tactic| (rw [sizeLine_eq]; (try simp only [List.length_append, List.length_cons, List.length_nil, List.length_map, List.length_reverse]); omega))
local macro_rules | `(tactic| walk_at "ds") => `(tactic| repeat (first
  | with_reducible refine k_seq ?_
  | with_reducible refine k_asg ?_
  | with_reducible refine k_var (by with_unfolding_all exact rfl) ?_
  | with_reducible refine k_c ?_
  | with_reducible refine k_op ?_
  | with_reducible refine k_cons ?_
  | with_reducible refine k_nil ?_
  | with_reducible refine k_name ?_
  | with_reducible refine k_ifS ?_
  | with_reducible refine k_test ?_
  | with_reducible refine k_bl ?_
  | with_reducible refine iteT ?_
  | with_reducible refine iteF ?_
  | with_reducible refine k_nf ?_
  | with_reducible refine k_nt ?_
  | with_reducible refine k_ret ?_
  | with_reducible refine k_cb ?_
  | with_reducible refine k_call ?_
  | with_reducible refine k_not ?_
  | with_reducible refine k_and ?_
  | with_reducible refine k_or ?_
  | with_reducible refine k_drop ?_
  | with_reducible refine k_next ?_
  | with_reducible refine k_bm ?_
  | with_reducible refine k_tyS ?_
  | with_reducible refine k_un ?_
  | with_reducible refine k_neg ?_
  | with_reducible refine k_fld ?_
  | with_reducible refine k_meth ?_
  | with_reducible refine k_tru ?_
  | with_reducible refine k_truB ?_
  | with_reducible refine k_truL ?_
  | with_reducible refine k_sl ?_
  | with_reducible refine k_part ?_
  | with_reducible refine k_nopart ?_
  | with_reducible refine k_i ?_
  | with_reducible refine k_s ?_
  | with_reducible refine k_l ?_
  | with_reducible refine k_tu ?_
  | with_reducible refine k_tup ?_
  | with_reducible refine k_lst ?_
  | with_reducible refine k_pu (by with_unfolding_all exact rfl) (by walk_at "sz") ?_
  | with_reducible refine k_lstC ?_
  | with_reducible refine k_lc ?_
  | with_reducible refine k_yes ?_
  | with_reducible refine k_for ?_
  | with_reducible refine k_jstr ?_
  | with_reducible refine k_jlst ?_
  | with_reducible refine k_jtup ?_
  | with_reducible refine k_rng1 ?_
  | with_reducible refine k_if ?_
  | with_reducible refine k_andV ?_
  | with_reducible refine k_orV ?_
  | with_reducible refine k_notV ?_
  | with_reducible refine k_chain ?_
  | with_reducible refine k_raise ?_
  | with_reducible refine k_stf ?_
  | with_reducible refine k_frz ?_
  | with_reducible refine k_frzV _ ?_
  | with_reducible refine k_make ?_
  | with_reducible refine k_try ?_
  | with_reducible refine k_callI ?_
  | with_reducible refine k_callIS ?_
  | with_reducible refine k_xf ?_
  | with_reducible refine k_sub ?_
  | with_reducible refine k_fs ?_
  | with_reducible refine k_js ?_
  | with_reducible refine k_jnil ?_
  | with_reducible refine k_fmt ?_
  | with_reducible refine k_rev ?_
  | with_reducible refine k_lenSet ?_
  | with_reducible refine k_srtSet ?_
  | with_reducible refine k_gcons ?_
  | with_reducible refine k_gnil ?_
  | with_reducible refine k_gtup (by rfl) ?_
  | with_reducible refine k_addI ?_
  | with_reducible refine k_subI ?_
  | with_reducible refine k_lt ?_
  | with_reducible refine k_le ?_
  | with_reducible refine k_gt ?_
  | with_reducible refine k_ge ?_
  | with_reducible refine k_in ?_
  | with_reducible refine k_notin ?_
  | with_reducible refine k_isN ?_
  | with_reducible refine k_isnotN ?_
  | with_reducible refine k_isB ?_
  | with_reducible refine k_isnotB ?_
  | with_reducible refine k_int ?_
  | with_reducible refine k_intB ?_
  | with_reducible refine k_bool ?_
  | with_reducible refine k_neS ?_
  | with_reducible refine k_eqS ?_
  | with_reducible refine k_eq (by with_unfolding_all exact rfl) ?_
  | with_reducible refine k_ne (by with_unfolding_all exact rfl) ?_
  | with_reducible refine k_ixT (by with_unfolding_all exact rfl) ?_
  | with_reducible refine k_ixL (by with_unfolding_all exact rfl) ?_
  | with_reducible refine k_slL ?_
  | with_reducible refine k_lenL ?_
  | with_reducible refine k_lenT ?_
  | with_reducible refine k_listL ?_
  | with_reducible refine k_listT ?_
  | with_reducible refine k_fo (by with_unfolding_all exact rfl) ?_
  | with_reducible refine k_rng2 ?_
  | with_reducible refine k_star ?_
  | with_reducible refine k_makeR ?_
  | with_reducible refine k_cmeth ?_
  | with_reducible refine k_tupOf ?_
  | with_reducible refine k_tupT ?_
  | with_reducible refine k_tupL ?_
  | with_reducible refine k_cls ?_
  | with_reducible refine k_starT ?_
  | with_reducible refine k_starL ?_
  | with_reducible refine k_raise2 ?_
  | with_reducible refine k_raise0 ?_
  | with_reducible refine k_forG ?_
  | with_reducible refine k_jls ?_
  | with_reducible refine k_lcG ?_
  | with_reducible refine k_lcCG ?_
  | with_reducible refine k_gtup2 ?_
  | with_reducible refine k_gtup3 ?_
  | with_reducible refine k_gtup4 ?_
  | with_reducible refine k_putK ?_
  | with_reducible refine k_putN ?_
  | with_reducible refine k_newK ?_
  | with_reducible refine k_newN ?_
  | with_reducible refine k_dispC ?_
  | with_reducible refine k_pcons ?_
  | with_reducible refine k_pnil ?_
  | with_reducible refine k_dispN ?_
  | with_reducible refine k_get2 ?_
  | with_reducible refine k_lcC ?_
  | with_reducible refine k_gm1 ?_
  | with_reducible refine k_callSt ?_
  | with_reducible refine k_makeS ?_
  | with_reducible refine k_methS ?_
  | with_reducible refine k_sz (by walk_at "sz") ?_
  | with_reducible refine k_lenS (by walk_at "sz") ?_
  | with_reducible refine k_addS (by walk_at "sz") ?_
  | with_reducible refine k_slS (by walk_at "sz") ?_))
local macro_rules | `(tactic| walk_at "dz") => `(tactic| (walk_at "ds"; repeat (first
  | (with_reducible refine k_ixm0 ?_; walk_at "ds")
  | (with_reducible refine k_ixm1 ?_; walk_at "ds")
  | (with_reducible refine k_ixm2 ?_; walk_at "ds")
  | (with_reducible refine k_ixm3 ?_; walk_at "ds")
  | (with_reducible refine z_eq ?_; walk_at "ds")
  | (with_reducible refine z_neq ?_; walk_at "ds")
  | (with_reducible refine z_F (c := isNon (.v _)) (by with_unfolding_all exact rfl) ?_; walk_at "ds")
  | (with_reducible refine z_nF (c := isNon (.v _)) (by with_unfolding_all exact rfl) ?_; walk_at "ds")
  | (with_reducible refine z_T (c := isNon (.v _)) (by with_unfolding_all exact rfl) ?_; walk_at "ds")
  | (with_reducible refine z_nT (c := isNon (.v _)) (by with_unfolding_all exact rfl) ?_; walk_at "ds")
  | (with_reducible refine z_lnF (by first | omega | (simp; done) | (simp; omega)) ?_; walk_at "ds")
  | (with_reducible refine z_lnT (by first | omega | (simp; done) | (simp; omega)) ?_; walk_at "ds")
  | (with_reducible refine z_nlnF (by first | omega | (simp; done) | (simp; omega)) ?_; walk_at "ds")
  | (with_reducible refine z_nlnT (by first | omega | (simp; done) | (simp; omega)) ?_; walk_at "ds")
  | (with_reducible refine z_lgF (by first | omega | (simp; done) | (simp; omega)) ?_; walk_at "ds")
  | (with_reducible refine z_lgT (by first | omega | (simp; done) | (simp; omega)) ?_; walk_at "ds")
  | (with_reducible refine z_F (by decide) ?_; walk_at "ds")
  | (with_reducible refine z_T (by decide) ?_; walk_at "ds")
  | (with_reducible refine z_nF (by decide) ?_; walk_at "ds")
  | (with_reducible refine z_nT (by decide) ?_; walk_at "ds"))))
end Cl
/-! Own layer: `in`, truth and bool() of instances with their own __contains__, __bool__. -/
/-! Own layer: f-string fields with a width: a text to the left, a number to the right. -/
/-! Layer of values: min of two numbers. -/
namespace Cl
open PySem PySem.Spec PyProof.Rows L2 He ClX
def zMin2 : List V → Hp → VK → Prop := fun xs H Q => ∃ i j, xs = [.int i, .int j] ∧ Q (.int (if j < i then j else i)) H
theorem cz_min2 {X : Cx} (hc : X.calm = true) : CallR X (.builtin "min") zMin2 := call_min2 hc
def uMin2 : DR := fun xs M Q => ∃ i j, xs = [vI i, vI j] ∧ Q (vI (if j < i then j else i)) M
theorem sr_min2 {S : Sc} : SimR S zMin2 uMin2 := fun c M vs ds Q Qd ok r ⟨i, j, e, q⟩ po => by
  subst e
  obtain ⟨v, w, rfl, r1, r2⟩ := ld2 r
  cases (show v = .int i from r1)
  cases (show w = .int j from r2)
  exact ⟨i, j, rfl, po_v ok po (d := vI _) rfl q⟩
end Cl
/-! Layer of values: isinstance of the caught error. -/
namespace Cl
open PySem PySem.Spec PyProof.Rows L2 He ClX
def uIsX (a : Addr) (e : DErr) (tab : Cn → Option Bool) (tv : PV) : DR := fun xs M Q => ∃ b, xs = [.exn a, .v tv] ∧ tab e.c = some b ∧ e.xs ≠ [] ∧ Q (vB b) M
theorem sr_isX {S : Sc} {a : Addr} {cls : Value} {d : Option Addr} {e : DErr} {c1 : CS} (hc : Same c1.F S.c0.F) (rx : RpX S.K S.cs c1 e cls d) {tab : Cn → Option Bool} {tv : PV} {cv : V} {u : Value} (hu : ∀ F v, Rp S.K S.cs F tv v → v = cv) (hcv : ClsV cv u) (hx : ∀ k, (tab k).isSome = true → XCls S.K (ga S.K k.str)) (ht : ∀ k b, tab k = some b → PySem.W.kitOne S.K (.ref (ga S.K k.str)) u = some b) : SimR S (rIsW S.K a cls d) (uIsX a e tab tv) := fun c M vs ds Q Qd ok r0 q po => by
  obtain ⟨b, rfl, hb, hne, q⟩ := q
  obtain ⟨v, w, rfl, r1, r2⟩ := ld2 r0
  have e2 := hu _ _ (show Rp S.K S.cs c.F tv w from r2)
  subst e2
  cases (show v = .ref a from r1)
  obtain ⟨ec, exs⟩ := e
  obtain ⟨h1, h2⟩ := rx
  cases exs with
  | nil => exact absurd rfl hne
  | cons x xs =>
    obtain ⟨dd, vs, h3, h4, h5⟩ := h2
    exact ⟨_, dd, _, w, u, b, rfl, h1, h3, ok.rl.same _ _ (ok.st.same _ _ (hc _ _ h4)), hx _ (by rw [hb]; rfl), hcv, ht _ _ hb, po_v ok po (d := vB b) rfl q⟩
end Cl
/-! Layer of values: `in`, truth, bool() of instances with their own __contains__, __bool__. -/
namespace Cl
open PySem PySem.Spec PyProof.Rows L2 He ClX
section
variable {S : Sc}
def uInI (k : Cn) (g : DSp) (b : Bool) : DR2 := fun x y M Q => ∃ ys, obOf M y = some (k, ys) ∧ g [y, x] M (fun d M' => ∃ c, d = vB c ∧ Q (vB (b != c)) M') noX
def uBoolI (k : Cn) (g : DSp) : DR := fun xs M Q => ∃ x ys, xs = [x] ∧ obOf M x = some (k, ys) ∧ g [x] M (fun d M' => ∃ c, d = vB c ∧ Q (vB c) M') noX
def dTruI (k : Cn) (g : DSp) (a : DE) : DT := fun ds M Q => a ds M fun x M1 => ∃ ys, obOf M1 x = some (k, ys) ∧ g [x] M1 (fun d M' => ∃ c, d = vB c ∧ Q c M') noX
section
variable {k : Cn} {g : DSp} {a : DE} {ds : DSt} {M : Mem}
theorem k_truI {QB : Bool → Mem → Prop} (h : a ds M fun x M1 => ∃ ys, obOf M1 x = some (k, ys) ∧ g [x] M1 (fun d M' => ∃ c, d = vB c ∧ QB c M') noX) : dTruI k g a ds M QB := h
theorem k_inI {Q : DQ} {x : D} {xs : List PV} {b : Bool} (h : g [.v (.obj k xs), x] M (fun d M' => ∃ c, d = vB c ∧ Q (vB (b != c)) M') noX) : uInI k g b x (.v (.obj k xs)) M Q := ⟨_, rfl, h⟩
theorem k_boolI {Q : DQ} {xs : List PV} (h : g [.v (.obj k xs)] M (fun d M' => ∃ c, d = vB c ∧ Q (vB c) M') noX) : uBoolI k g [.v (.obj k xs)] M Q := ⟨_, _, rfl, rfl, h⟩
theorem k_obI {xs : List PV} {p : Prop} (h : p) : ∃ ys, obOf M (.v (.obj k xs)) = some (k, ys) ∧ p := ⟨_, rfl, h⟩
end
/-- C(..), the class in a variable -/
def dMakeF (k : Cn) (g : DSp) (Ed : DX) (f : DE) (a : DA) : DE := fun ds M Q => f ds M fun y M0 => y = .v (.cls k) ∧ dMake k g [] Ed a ds M0 Q
theorem k_makeF {k : Cn} {g : DSp} {Ed : DX} {f : DE} {a : DA} {ds : DSt} {M : Mem} {Q : DQ} (h : f ds M fun y M0 => y = .v (.cls k) ∧ dMake k g [] Ed a ds M0 Q) : dMakeF k g Ed f a ds M Q := h
/-- a variable's cell is frozen behind a statement (nothing happens in the heap) -/
def dFz (i : Nat) (d : DS) : DS := fun E ds M => d { E with nx := fun ds' M' => ∃ x y M2, ds'[i]? = some (some x) ∧ frz M' x = some (y, M2) ∧ E.nx (ds'.set i (some (.v y))) M2 } ds M
theorem k_fz {i : Nat} {d : DS} {E : DEnds} {ds : DSt} {M : Mem} (h : d { E with nx := fun ds' M' => ∃ x y M2, ds'[i]? = some (some x) ∧ frz M' x = some (y, M2) ∧ E.nx (ds'.set i (some (.v y))) M2 } ds M) : dFz i d E ds M := h
end
end Cl
/-! bool() of a list. -/
/-! Layer of values: fields with a width, ljust, rjust. -/
namespace Cl
open PySem PySem.Spec PyProof.Rows L2 He ClX
/-- blanks behind, blanks ahead -/
def padR (n : Nat) (z : List Nat) : List Nat := z ++ List.replicate (n - z.length) 32
def padL (n : Nat) (z : List Nat) : List Nat := List.replicate (n - z.length) 32 ++ z
section
variable {S' : Sc} {ta : TE} {da : DE}
def dFmtL (n : Nat) (a : DE) : DE := fun ds M Q => a ds M fun x M1 => ∃ z, x = vS z ∧ z.length ≤ 1000000 ∧ Q (vS (padR n z)) M1
def dFmtI (n : Nat) (a : DE) : DE := fun ds M Q => a ds M fun x M1 => ∃ i : Int, x = vI i ∧ 0 ≤ i ∧ i.natAbs.log2 < 1920 ∧ (Nat.toDigits 10 i.natAbs).length ≤ 1000000 ∧ Q (vS (padL n (figs i))) M1
end
/-! ### methods -/
section
variable {S' : Sc}
def uLjust : DM := fun x xs M Q => ∃ (z : List Nat) (n : Nat), x = vS z ∧ xs = [vI n] ∧ PadOk (n : Int) = true ∧ Q (vS (padR n z)) M
def uRjust : DM := fun x xs M Q => ∃ (z : List Nat) (n : Nat), x = vS z ∧ xs = [vI n] ∧ PadOk (n : Int) = true ∧ Q (vS (padL n z)) M
end
/-! ### lists whose items are cells: xs * n, xs[a:b] -/
section
variable {ds : DSt} {M : Mem} {Q : DQ} {a : DE}
theorem k_fmtL {n : Nat} (h : a ds M fun x M1 => ∃ z, x = vS z ∧ z.length ≤ 1000000 ∧ Q (vS (padR n z)) M1) : dFmtL n a ds M Q := h
theorem k_fmtI {n : Nat} (h : a ds M fun x M1 => ∃ i : Int, x = vI i ∧ 0 ≤ i ∧ i.natAbs.log2 < 1920 ∧ (Nat.toDigits 10 i.natAbs).length ≤ 1000000 ∧ Q (vS (padL n (figs i))) M1) : dFmtI n a ds M Q := h
theorem k_ljust {z : List Nat} {n : Nat} (hn : PadOk (n : Int) = true) (h : Q (vS (padR n z)) M) : uLjust (vS z) [vI n] M Q := ⟨z, n, rfl, rfl, hn, h⟩
theorem k_rjust {z : List Nat} {n : Nat} (hn : PadOk (n : Int) = true) (h : Q (vS (padL n z)) M) : uRjust (vS z) [vI n] M Q := ⟨z, n, rfl, rfl, hn, h⟩
end
end Cl
/-! Machines printed: lines as data; promises. -/
/-! Tables of stocks: their words (no program in sight). -/
namespace Cl
open PySem PySem.Spec PyProof.Rows L2 He ClX
def stp (R : List (List Int)) (p a : Nat) : Int := (R.getD p []).getD a (-1)
/-- the words from a place on -/
def lng (R : List (List Int)) (G : List Bool) : Nat → List Nat → Bool
  | p, [] => G.getD p false
  | p, a :: y => if 0 ≤ stp R p a then lng R G (stp R p a).toNat y else false
def inW (w : Nat) (y : List Nat) : Prop := ∀ a ∈ y, a < w
/-! ### useful places -/
end Cl
/-! The least table has the words of its rows (no program in sight). -/
namespace Cl
open PySem PySem.Spec PyProof.Rows L2 He ClX
theorem getD_mem {α : Type} {l : List α} {i : Nat} (h : i < l.length) (d : α) : l.getD i d ∈ l := by
  rw [List.getD_eq_getElem?_getD, List.getElem?_eq_getElem h]; exact List.getElem_mem h
/-- well formed tables -/
structure Tab (w : Nat) (R : List (List Int)) : Prop where
  ne : R ≠ []
  wid : ∀ r ∈ R, r.length = w
  ok : okSteps R.length R
theorem Tab.row {w : Nat} {R : List (List Int)} (t : Tab w R) {p : Nat} (h : p < R.length) : (R.getD p []).length = w := t.wid _ (getD_mem h _)
theorem Tab.mem {w : Nat} {R : List (List Int)} (t : Tab w R) {p a : Nat} (h : p < R.length) (ha : a < w) : stp R p a ∈ R.getD p [] := getD_mem (by rw [t.row h]; exact ha) _
theorem Tab.lt {w : Nat} {R : List (List Int)} (t : Tab w R) {p a : Nat} (h : p < R.length) (ha : a < w) : -1 ≤ stp R p a ∧ stp R p a < R.length := t.ok _ (getD_mem h _) _ (t.mem h ha)
theorem Tab.pos {w : Nat} {R : List (List Int)} (t : Tab w R) : 0 < R.length := List.length_pos_iff.mpr t.ne
/-! ### classes that are stable -/
end Cl
/-! The least table has the words of its rows: classes merged (no program in sight). -/
/-! Stocks: listed words, places behind words; promises. -/
namespace Cl
open PySem PySem.Spec PyProof.Rows L2 He ClX
/-! ### the tree of the listed words -/
/-! ### words as numbers of signs -/
def ixW (ls z : List Nat) : List Nat := z.map ((45 :: ls).idxOf ·)
theorem ixW_at {ls : List Nat} (nd : (45 :: ls).Nodup) {y : List Nat} (h : inW (ls.length + 1) y) : ∃ z, isW ls z = true ∧ ixW ls z = y := by
  refine ⟨y.map fun a => (45 :: ls).getD a 0, isW_iff.mpr fun c hc => ?_, ?_⟩
  · obtain ⟨a, ha, rfl⟩ := List.mem_map.mp hc
    exact getD_mem (h a ha) 0
  · unfold ixW
    rw [List.map_map]
    conv => rhs; rw [← List.map_id y]
    refine List.map_congr_left fun a ha => ?_
    have hl := h a ha
    show (45 :: ls).idxOf ((45 :: ls).getD a 0) = a
    rw [List.getD_eq_getElem?_getD, List.getElem?_eq_getElem hl]
    exact nd.idxOf_getElem a hl
/-- a stock's table of the words W -/
structure Stk (ls : List Nat) (R : List (List Int)) (G : List Bool) (W : List Nat → Prop) : Prop where
  tab : Tab (ls.length + 1) R
  len : R.length = G.length
  lang : ∀ z, isW ls z = true → (lng R G 0 (ixW ls z) = true ↔ W z)
  use : (∀ i, i < R.length → ∃ y, inW (ls.length + 1) y ∧ lng R G i y = true) ∨ (R = [List.replicate (ls.length + 1) (-1)] ∧ G = [false])
  le : R.length ≤ 100000
/-! ### the place behind a word -/
section
variable {ls : List Nat} {R : List (List Int)} {G : List Bool} {W : List Nat → Prop}
theorem lng_any {R : List (List Int)} {G : List Bool} : ∀ (y : List Nat) (p : Nat), lng R G p y = true → G.any id = true
  | [], p, h => by
    unfold lng at h
    by_cases hp : p < G.length
    · exact List.any_eq_true.mpr ⟨_, getD_mem hp false, h⟩
    · rw [List.getD_eq_getElem?_getD, List.getElem?_eq_none (by omega)] at h
      cases h
  | a :: y, p, h => by
    unfold lng at h
    split at h
    · exact lng_any y _ h
    · cases h
theorem Stk.any (s : Stk ls R G W) (nd : (45 :: ls).Nodup) : G.any id = true ↔ ∃ z, isW ls z = true ∧ W z := by
  constructor
  · intro h
    rcases s.use with hu | ⟨_, hG⟩
    · obtain ⟨y, hy, hy2⟩ := hu 0 s.tab.pos
      obtain ⟨y', h1, rfl⟩ := ixW_at nd hy
      exact ⟨y', h1, (s.lang y' h1).mp hy2⟩
    · rw [hG] at h; cases h
  · rintro ⟨z, hz, hw⟩
    exact lng_any _ 0 ((s.lang z hz).mpr hw)
end
/-! ### promises -/
end Cl
/-! Machines printed. -/
namespace Cl
open PySem PySem.Spec PyProof.Rows L2 He ClX
local macro_rules | `(tactic| walk_at "sz") => `(tactic| (rw [sizeLine_eq]; (try simp only [List.length_append, List.length_cons, List.length_nil, List.length_map, List.length_reverse]); omega))
local macro_rules | `(tactic| walk_at "ds") => `(tactic| repeat (first
  | with_reducible refine k_seq ?_
  | with_reducible refine k_asg ?_
  | with_reducible refine k_var (by with_unfolding_all exact rfl) ?_
  | with_reducible refine k_c ?_
  | with_reducible refine k_op ?_
  | with_reducible refine k_cons ?_
  | with_reducible refine k_nil ?_
  | with_reducible refine k_name ?_
  | with_reducible refine k_ifS ?_
  | with_reducible refine k_test ?_
  | with_reducible refine k_bl ?_
  | with_reducible refine iteT ?_
  | with_reducible refine iteF ?_
  | with_reducible refine k_nf ?_
  | with_reducible refine k_nt ?_
  | with_reducible refine k_ret ?_
  | with_reducible refine k_cb ?_
  | with_reducible refine k_call ?_
  | with_reducible refine k_not ?_
  | with_reducible refine k_and ?_
  | with_reducible refine k_or ?_
  | with_reducible refine k_drop ?_
  | with_reducible refine k_next ?_
  | with_reducible refine k_bm ?_
  | with_reducible refine k_tyS ?_
  | with_reducible refine k_un ?_
  | with_reducible refine k_neg ?_
  | with_reducible refine k_fld ?_
  | with_reducible refine k_meth ?_
  | with_reducible refine k_tru ?_
  | with_reducible refine k_truB ?_
  | with_reducible refine k_truL ?_
  | with_reducible refine k_sl ?_
  | with_reducible refine k_part ?_
  | with_reducible refine k_nopart ?_
  | with_reducible refine k_i ?_
  | with_reducible refine k_s ?_
  | with_reducible refine k_l ?_
  | with_reducible refine k_tu ?_
  | with_reducible refine k_tup ?_
  | with_reducible refine k_lst ?_
  | with_reducible refine k_pu (by with_unfolding_all exact rfl) (by walk_at "sz") ?_
  | with_reducible refine k_lstC ?_
  | with_reducible refine k_lc ?_
  | with_reducible refine k_yes ?_
  | with_reducible refine k_for ?_
  | with_reducible refine k_jstr ?_
  | with_reducible refine k_jlst ?_
  | with_reducible refine k_jtup ?_
  | with_reducible refine k_rng1 ?_
  | with_reducible refine k_if ?_
  | with_reducible refine k_andV ?_
  | with_reducible refine k_orV ?_
  | with_reducible refine k_notV ?_
  | with_reducible refine k_chain ?_
  | with_reducible refine k_raise ?_
  | with_reducible refine k_stf ?_
  | with_reducible refine k_frz ?_
  | with_reducible refine k_frzV _ ?_
  | with_reducible refine k_make ?_
  | with_reducible refine k_try ?_
  | with_reducible refine k_callI ?_
  | with_reducible refine k_callIS ?_
  | with_reducible refine k_xf ?_
  | with_reducible refine k_sub ?_
  | with_reducible refine k_fs ?_
  | with_reducible refine k_js ?_
  | with_reducible refine k_jnil ?_
  | with_reducible refine k_fmt ?_
  | with_reducible refine k_rev ?_
  | with_reducible refine k_lenSet ?_
  | with_reducible refine k_srtSet ?_
  | with_reducible refine k_gcons ?_
  | with_reducible refine k_gnil ?_
  | with_reducible refine k_gtup (by rfl) ?_
  | with_reducible refine k_addI ?_
  | with_reducible refine k_subI ?_
  | with_reducible refine k_lt ?_
  | with_reducible refine k_le ?_
  | with_reducible refine k_gt ?_
  | with_reducible refine k_ge ?_
  | with_reducible refine k_in ?_
  | with_reducible refine k_notin ?_
  | with_reducible refine k_isN ?_
  | with_reducible refine k_isnotN ?_
  | with_reducible refine k_isB ?_
  | with_reducible refine k_isnotB ?_
  | with_reducible refine k_int ?_
  | with_reducible refine k_intB ?_
  | with_reducible refine k_bool ?_
  | with_reducible refine k_neS ?_
  | with_reducible refine k_eqS ?_
  | with_reducible refine k_eq (by with_unfolding_all exact rfl) ?_
  | with_reducible refine k_ne (by with_unfolding_all exact rfl) ?_
  | with_reducible refine k_ixT (by with_unfolding_all exact rfl) ?_
  | with_reducible refine k_ixL (by with_unfolding_all exact rfl) ?_
  | with_reducible refine k_slL ?_
  | with_reducible refine k_lenL ?_
  | with_reducible refine k_lenT ?_
  | with_reducible refine k_listL ?_
  | with_reducible refine k_listT ?_
  | with_reducible refine k_fo (by with_unfolding_all exact rfl) ?_
  | with_reducible refine k_rng2 ?_
  | with_reducible refine k_star ?_
  | with_reducible refine k_makeR ?_
  | with_reducible refine k_cmeth ?_
  | with_reducible refine k_tupOf ?_
  | with_reducible refine k_tupT ?_
  | with_reducible refine k_tupL ?_
  | with_reducible refine k_cls ?_
  | with_reducible refine k_starT ?_
  | with_reducible refine k_starL ?_
  | with_reducible refine k_raise2 ?_
  | with_reducible refine k_raise0 ?_
  | with_reducible refine k_forG ?_
  | with_reducible refine k_jls ?_
  | with_reducible refine k_lcG ?_
  | with_reducible refine k_lcCG ?_
  | with_reducible refine k_gtup2 ?_
  | with_reducible refine k_gtup3 ?_
  | with_reducible refine k_gtup4 ?_
  | with_reducible refine k_truI ?_
  | with_reducible refine k_inI ?_
  | with_reducible refine k_boolI ?_
  | with_reducible refine k_obI ?_
  | with_reducible refine k_makeF ?_
  | with_reducible refine k_fz ?_
  | with_reducible refine k_fmtL ?_
  | with_reducible refine k_fmtI ?_
  | with_reducible refine k_ljust (by decide) ?_
  | with_reducible refine k_rjust (by decide) ?_
  | with_reducible refine k_putK ?_
  | with_reducible refine k_putN ?_
  | with_reducible refine k_newK ?_
  | with_reducible refine k_newN ?_
  | with_reducible refine k_dispC ?_
  | with_reducible refine k_pcons ?_
  | with_reducible refine k_pnil ?_
  | with_reducible refine k_dispN ?_
  | with_reducible refine k_get2 ?_
  | with_reducible refine k_lcC ?_
  | with_reducible refine k_gm1 ?_
  | with_reducible refine k_callSt ?_
  | with_reducible refine k_makeS ?_
  | with_reducible refine k_methS ?_
  | with_reducible refine k_sz (by walk_at "sz") ?_
  | with_reducible refine k_lenS (by walk_at "sz") ?_
  | with_reducible refine k_addS (by walk_at "sz") ?_
  | with_reducible refine k_slS (by walk_at "sz") ?_))
local macro_rules | `(tactic| walk_at "dz") => `(tactic| (walk_at "ds"; repeat (first
  | (with_reducible refine k_ixm0 ?_; walk_at "ds")
  | (with_reducible refine k_ixm1 ?_; walk_at "ds")
  | (with_reducible refine k_ixm2 ?_; walk_at "ds")
  | (with_reducible refine k_ixm3 ?_; walk_at "ds")
  | (with_reducible refine z_eq ?_; walk_at "ds")
  | (with_reducible refine z_neq ?_; walk_at "ds")
  | (with_reducible refine z_F (c := isNon (.v _)) (by with_unfolding_all exact rfl) ?_; walk_at "ds")
  | (with_reducible refine z_nF (c := isNon (.v _)) (by with_unfolding_all exact rfl) ?_; walk_at "ds")
  | (with_reducible refine z_T (c := isNon (.v _)) (by with_unfolding_all exact rfl) ?_; walk_at "ds")
  | (with_reducible refine z_nT (c := isNon (.v _)) (by with_unfolding_all exact rfl) ?_; walk_at "ds")
  | (with_reducible refine z_lnF (by first | omega | (simp; done) | (simp; omega)) ?_; walk_at "ds")
  | (with_reducible refine z_lnT (by first | omega | (simp; done) | (simp; omega)) ?_; walk_at "ds")
  | (with_reducible refine z_nlnF (by first | omega | (simp; done) | (simp; omega)) ?_; walk_at "ds")
  | (with_reducible refine z_nlnT (by first | omega | (simp; done) | (simp; omega)) ?_; walk_at "ds")
  | (with_reducible refine z_lgF (by first | omega | (simp; done) | (simp; omega)) ?_; walk_at "ds")
  | (with_reducible refine z_lgT (by first | omega | (simp; done) | (simp; omega)) ?_; walk_at "ds")
  | (with_reducible refine z_F (by decide) ?_; walk_at "ds")
  | (with_reducible refine z_T (by decide) ?_; walk_at "ds")
  | (with_reducible refine z_nF (by decide) ?_; walk_at "ds")
  | (with_reducible refine z_nT (by decide) ?_; walk_at "ds"))))
end Cl
/-! Layer of values: tuples that hold cells. -/
namespace Cl
open PySem PySem.Spec PyProof.Rows L2 He ClX
section
variable {S : Sc}
theorem po_tplC {c : CS} {M : Mem} {Qd : DQ} {Q : VK} (ok : S.Ok c M) (po : PoE S c M Qd Q) {p : Addr} (hp : c.H p = none) {vs : List V} {ds : List D} (r : S.Ld c ds vs) (q : Qd (.cell M.length) (M ++ [some (.tpl ds)])) : Q (.ref p) (upd c.H p (.tup vs)) := by
  obtain ⟨r1, s1⟩ := ok.rl.newc hp (x := .tpl ds) (o := .tup vs) ⟨vs, rfl, r⟩
  exact po ⟨c.F, c.ρ ++ [p], upd c.H p (.tup vs)⟩ _ _ (.cell M.length) s1 r1 ⟨p, by show (c.ρ ++ [p])[M.length]? = some p; rw [← ok.rl.len]; simp, rfl⟩ q
def dTupC (a : DA) : DE := fun ds M Q => a ds M fun ys M1 => ys.length ≤ sizeLine ∧ Q (.cell M1.length) (M1 ++ [some (.tpl ys)])
theorem sim_tupC {tr : TA} {dr : DA} (ha : SimA S tr dr) : SimE S (tTup tr) (dTupC dr) := fun c M σ ds Q Qd ok rs q po =>
  ha c M σ ds _ _ ok rs q fun c1 M1 v1 d1 s1 r1 p1 ⟨hl, q1⟩ => ⟨by rw [← p1.len]; exact hl, fun p hp => po_tplC (ok.step s1 r1) (po.step s1) hp p1 q1⟩
/-- t[i] -/
def uIxP : DR2 := fun x y M Q => ∃ i k ds u, x = .cell k ∧ y = vI i ∧ M[k]? = some (some (.tpl ds)) ∧ atI ds i = some u ∧ Q u M
theorem so_ixP : SimO S (zIx S.K) uIxP := fun c M x y dx dy Q Qd ok rx ry q po => by
  obtain ⟨i, k, ds, z, rfl, rfl, m, hz, q⟩ := q
  cases (show y = .int i from ry)
  obtain ⟨a, e, rfl⟩ := rx
  obtain ⟨h1, o, h2, vs, rfl, h3⟩ := ok.rl.live k a _ e m
  obtain ⟨v, g1, g2⟩ := atI_a2 h3 hz
  exact ⟨vs, v, .inr (.inl (.inl h2)), g1, po_v ok po g2 q⟩
end
section
variable {ds : DSt} {M : Mem} {Q : DQ} {r : DA}
theorem k_tupC (h : r ds M fun ys M1 => ys.length ≤ sizeLine ∧ Q (.cell M1.length) (M1 ++ [some (.tpl ys)])) : dTupC r ds M Q := h
theorem k_ixP {k : Nat} {ys : List D} {i : Int} {u : D} (m : M[k]? = some (some (.tpl ys))) (e : atI ys i = some u) (h : Q u M) : uIxP (.cell k) (vI i) M Q := ⟨i, k, ys, u, rfl, rfl, m, e, h⟩
end
end Cl
namespace Cl.Kl
open PySem PySem.Spec PyProof.Rows L2 He ClX
def g_law : DSp := fun ds M Q _ => ∃ ns, ds = [.v (.scr ns)] ∧ ns.length ≤ 63 ∧ ∀ M', Q (vB true) M'
theorem len_g_law (ds : List D) (M : Mem) (Q : DQ) (E : DX) (h : g_law ds M Q E) : ds.length = 1 := by obtain ⟨_, rfl, _⟩ := h; rfl
theorem sp_law_of {K : PySem.W.Frag} {cs : List Cn} {H : Hp} {a : Addr} {ns : List Int} {Q : VK} {E : XK} (hl : ns.length ≤ 63) (h : SqL K H a (ns.map V.int)) (q : ∀ H', Q (.bl true) H') : spD K cs g_law [.ref a] H Q E :=
  ⟨⟨H, [], H⟩, [], [.v (.scr ns)], fun d _ => d = vB true, fun _ _ => False, rfl, ⟨Same.refl _, rfl, List.nodup_nil, (fun _ m => nomatch m), fun i a x e => by simp at e⟩, .cons ⟨a, rfl, h⟩ .nil, ⟨ns, rfl, hl, fun _ => rfl⟩, fun c' M' v d s r p q' => by subst q'; cases (show v = .bl true from p); exact q _, fun _ _ _ _ _ _ _ _ q => q.elim⟩
def optP : Option Int → PV
  | none => .non
  | some p => .int p
/-- a table in cells -/
structure TabC (M : Mem) (b r e : Nat) (rs : List (List Stp)) (es : List (Option (List Nat))) : Prop where
  hr : M[r]? = some (some (Cell.lst ((rs.map rowP).map D.v)))
  he : M[e]? = some (some (Cell.lst ((es.map endP).map D.v)))
  br : b < r
  be : b < e
  re : r ≠ e
  bg : Bg M b
/-- one place is bent -/
structure Bent (ls : List Nat) (p : Nat) (rs rs' : List (List Stp)) (es es' : List (Option (List Nat))) : Prop where
  lr : rs'.length = rs.length
  le : es'.length = es.length
  bad : badAt ls rs' es' p = true
  same : ∀ q, q ≠ p → rs'[q]? = rs[q]? ∧ es'[q]? = es[q]?
  bnd : ∀ {f : List Nat}, TabB f rs es → TabB f rs' es'
  lay : (rowsP rs).lay 60 = true → (rowsP rs').lay 60 = true
def g_l_table : DSp := fun ds M Q _ => ∃ (b : Nat) (ls : List Nat) (top : Nat), ds = [.cell b, vS (45 :: ls), vI top] ∧ Bg M b ∧ ls.length ≤ 50 ∧ 1 ≤ top ∧ top ≤ 50 ∧ ∀ f rs es M' t r e, OkT ls f rs es 2 → rs.length ≤ top → TabC M' b r e rs es → M'[t]? = some (some (Cell.tpl [vS f, .cell r, .cell e])) → Q (.cell t) M'
theorem len_g_l_table (ds : List D) (M : Mem) (Q : DQ) (E : DX) (h : g_l_table ds M Q E) : ds.length = 3 := by obtain ⟨_, _, _, rfl, _⟩ := h; rfl
def g_l_told : DSp := fun ds M Q _ => ∃ (ls vw f : List Nat) (d e : D) (rs : List (List Stp)) (es : List (Option (List Nat))), ds = [.v (alph ls vw), vS f, d, e] ∧ snap M 2 d = some (rowsP rs) ∧ snap M 1 e = some (endsP es) ∧ ls.length ≤ 60 ∧ TabB f rs es ∧ Q (.v (optP (chkM ls f rs es))) M
theorem len_g_l_told (ds : List D) (M : Mem) (Q : DQ) (E : DX) (h : g_l_told ds M Q E) : ds.length = 4 := by obtain ⟨_, _, _, _, _, _, _, rfl, _⟩ := h; rfl
def g_l_kinds : DSp := fun ds M Q _ => ∃ (ls vw f : List Nat) (d e : D) (rs : List (List Stp)) (es : List (Option (List Nat))), ds = [.v (alph ls vw), vS f, d, e] ∧ snap M 2 d = some (rowsP rs) ∧ snap M 1 e = some (endsP es) ∧ ls.length ≤ 60 ∧ TabB f rs es ∧ (∃ p, chkM ls f rs es = some p) ∧ Q (vB true) M
theorem len_g_l_kinds (ds : List D) (M : Mem) (Q : DQ) (E : DX) (h : g_l_kinds ds M Q E) : ds.length = 4 := by obtain ⟨_, _, _, _, _, _, _, rfl, _⟩ := h; rfl
def g_l_bend : DSp := fun ds M Q _ => ∃ (b r e p : Nat) (ls : List Nat) (rs : List (List Stp)) (es : List (Option (List Nat))), ds = [.cell b, .cell r, .cell e, vS (45 :: ls), vI p] ∧ TabC M b r e rs es ∧ okL ls ∧ ls.length ≤ 20 ∧ p < rs.length ∧ rs.length ≤ 1000 ∧ rs.length = es.length ∧ ∀ M' rs' es', Bent ls p rs rs' es es' → TabC M' b r e rs' es' → Q (.v .non) M'
theorem len_g_l_bend (ds : List D) (M : Mem) (Q : DQ) (E : DX) (h : g_l_bend ds M Q E) : ds.length = 5 := by obtain ⟨_, _, _, _, _, _, _, rfl, _⟩ := h; rfl
def g_l_is_integer : DSp := fun ds M Q _ => ∃ i, ds = [vI i] ∧ Q (vB true) M
theorem len_g_l_is_integer (ds : List D) (M : Mem) (Q : DQ) (E : DX) (h : g_l_is_integer ds M Q E) : ds.length = 1 := by obtain ⟨_, rfl, _⟩ := h; rfl
def tb_int : Kd → Option Bool
  | .t n => if n = "int" then some true else none
  | _ => none
def tb_bool : Kd → Option Bool
  | .t n => if n = "int" then some false else none
  | _ => none
def tx_ValueError : Cn → Option Bool
  | .BadTable => some true
  | _ => none
def tx_BadTable : Cn → Option Bool
  | .BadTable => some true
  | _ => none
def tx_BadWord : Cn → Option Bool
  | .BadTable => some false
  | _ => none
def r_l_table : DS :=
  dSeq (dAsg (dOp uAdd (dC (.int 1)) (dCall g_l_take noX (dCons (dVar 0) (dCons (dVar 2) dNil)))) (hName 3)) (dSeq (dAsg (dLstC dNil) (hName 4)) (dSeq (dAsg (dLstC dNil) (hName 5)) (dSeq (dFor (jRng1 (dCons (dVar 3) dNil)) (hName 6) (dSeq (dAsg (dLstC dNil) (hName 7)) (dSeq (dFor (jRng1 (dCons (dCB uLen (dCons (dVar 1) dNil)) dNil)) (hName 8) (dSeq (dAsg (dOp uSub (dCall g_l_take noX (dCons (dVar 0) (dCons (dOp uAdd (dVar 3) (dC (.int 1))) dNil))) (dC (.int 1))) (hName 9)) (dSeq (dAsg (dCall g_l_word noX (dCons (dVar 0) (dCons (dVar 1) (dCons (dC (.int 2)) dNil)))) (hName 10)) (dDrop (dBm tyL uApp (dVar 7) (dCons (dIf (dTest (dOp uLt (dVar 9) (dC (.int 0)))) (dC .non) (dTup (dCons (dVar 9) (dCons (dVar 10) dNil)))) dNil)))))) (dSeq (dDrop (dBm tyL uApp (dVar 4) (dCons (dFrz (dVar 7)) dNil))) (dSeq (dAsg (dCall g_l_word noX (dCons (dVar 0) (dCons (dVar 1) (dCons (dC (.int 2)) dNil)))) (hName 11)) (dDrop (dBm tyL uApp (dVar 5) (dCons (dIf (dTest (dOp uEq (dCall g_l_take noX (dCons (dVar 0) (dCons (dC (.int 3)) dNil))) (dC (.int 0)))) (dC .non) (dVar 11)) dNil)))))))) (dRet (dTupC (dCons (dCall g_l_word noX (dCons (dVar 0) (dCons (dVar 1) (dCons (dC (.int 2)) dNil)))) (dCons (dVar 4) (dCons (dVar 5) dNil))))))))
def r_l_is_integer : DS :=
  dRet (dAndV (dCB (uIsi tb_int (.ty "int")) (dCons (dVar 0) (dCons (dC (.ty "int")) dNil))) (dNotV (dCB (uIsi tb_bool (.ty "bool")) (dCons (dVar 0) (dCons (dC (.ty "bool")) dNil)))))
def r_l_told : DS :=
  dSeq (dTry [(.BadTable, true)] 4 (fun W => dDrop (dMakeS .Machine g_Machine_init [] W (dCons (dVar 0) (dCons (dVar 1) (dCons (dVar 2) (dCons (dVar 3) dNil)))))) (fun a e => dRet (dXf a e .BadTable .place (dVar 4))) (fun _ _ _ => False)) (dRet (dC .non))
def r_l_kinds : DS :=
  dSeq (dTry [(.BadTable, true)] 4 (fun W => dDrop (dMakeS .Machine g_Machine_init [] W (dCons (dVar 0) (dCons (dVar 1) (dCons (dVar 2) (dCons (dVar 3) dNil)))))) (fun a e => dRet (dAndV (dCB (uIsX a e tx_ValueError (.ty "ValueError")) (dCons (dVar 4) (dCons (dC (.ty "ValueError")) dNil))) (dAndV (dCB (uIsX a e tx_BadTable (.cls .BadTable)) (dCons (dVar 4) (dCons (dC (.cls .BadTable)) dNil))) (dNotV (dCB (uIsX a e tx_BadWord (.cls .BadWord)) (dCons (dVar 4) (dCons (dC (.cls .BadWord)) dNil))))))) (fun _ _ _ => False)) (dRet (dC (.bl false)))
def r_l_bend : DS :=
  dSeq (dAsg (dCall g_l_take noX (dCons (dVar 0) (dCons (dC (.int 6)) dNil))) (hName 5)) (dSeq (dAsg (dCall g_l_take noX (dCons (dVar 0) (dCons (dCB uLen (dCons (dVar 3) dNil)) dNil))) (hName 6)) (dSeq (dAsg (dLc (jStr (dVar 3)) (hName 8) dYes (dTup (dCons (dC (.int 0)) (dCons (dOp uIx (dVar 3) (dC (.int 0))) dNil))) [8]) (hName 7)) (dSeq (dAsg (dOp uIx (dLst (dCons (dCB uLen (dCons (dVar 1) dNil)) (dCons (dUn uNeg (dC (.int 1))) (dCons (dOp uAdd (dOp uPow (dC (.int 10)) (dC (.int 15))) (dCall g_l_take noX (dCons (dVar 0) (dCons (dOp uPow (dC (.int 10)) (dC (.int 15))) dNil)))) (dCons (dUn uNeg (dC (.int 2))) dNil))))) (dCall g_l_take noX (dCons (dVar 0) (dCons (dC (.int 4)) dNil)))) (hName 9)) (dCut (dIfS (dTest (dOp uEq (dVar 5) (dC (.int 0)))) (dAsg (dSl uSl (dVar 7) (dPart (dC (.int 1))) dNoPart) (hSub (dVar 1) (dVar 4))) dNext) (dCut (dIfS (dTest (dOp uEq (dVar 5) (dC (.int 1)))) (dAsg (dOp uAdd (dVar 7) (dLst (dCons (dC .non) dNil))) (hSub (dVar 1) (dVar 4))) dNext) (dCut (dIfS (dTest (dOp uEq (dVar 5) (dC (.int 2)))) (dAsg (dOp uAdd (dOp uAdd (dSl uSl (dVar 7) dNoPart (dPart (dVar 6))) (dLst (dCons (dTup (dCons (dVar 9) (dCons (dC (.str [])) dNil))) dNil))) (dSl uSl (dVar 7) (dPart (dOp uAdd (dVar 6) (dC (.int 1)))) dNoPart)) (hSub (dVar 1) (dVar 4))) dNext) (dCut (dIfS (dTest (dOp uEq (dVar 5) (dC (.int 3)))) (dAsg (dOp uAdd (dOp uAdd (dSl uSl (dVar 7) dNoPart (dPart (dVar 6))) (dLst (dCons (dTup (dCons (dC (.int 0)) (dCons (dOp uAdd (dVar 3) (dC (.str [65]))) dNil))) dNil))) (dSl uSl (dVar 7) (dPart (dOp uAdd (dVar 6) (dC (.int 1)))) dNoPart)) (hSub (dVar 1) (dVar 4))) dNext) (dCut (dIfS (dTest (dOp uEq (dVar 5) (dC (.int 4)))) (dAsg (dC (.str [32])) (hSub (dVar 2) (dVar 4))) dNext) (dIfS (dTest (dOp uEq (dVar 5) (dC (.int 5)))) (dAsg (dOp uAdd (dOp uIx (dVar 3) (dC (.int 0))) (dC (.str [63]))) (hSub (dVar 2) (dVar 4))) dNext)))))))))
def r_law : DS :=
  dSeq (dAsg (dCall g_l_bag noX (dCons (dVar 0) dNil)) (hName 1)) (dSeq (dAsg (dCall g_l_letters noX (dCons (dVar 1) (dCons (dC (.int 3)) dNil))) (hName 2)) (dSeq (dAsg (dMake .Alphabet g_Alphabet_init [] noX (dCons (dVar 2) (dCons (dCall g_l_vowels noX (dCons (dVar 1) (dCons (dVar 2) dNil))) dNil))) (hName 3)) (dSeq (dAsg (dCall g_l_table noX (dCons (dVar 1) (dCons (dOp uAdd (dC (.str [45])) (dVar 2)) (dCons (dC (.int 4)) dNil)))) (hName 4)) (dSeq (dAsg (dOp uIxP (dVar 4) (dC (.int 0))) (hName 5)) (dSeq (dAsg (dOp uIxP (dVar 4) (dC (.int 1))) (hName 6)) (dSeq (dAsg (dOp uIxP (dVar 4) (dC (.int 2))) (hName 7)) (dSeq (dIfS (dTest (dOp uIsNot (dCall g_l_told noX (dCons (dVar 3) (dCons (dVar 5) (dCons (dVar 6) (dCons (dVar 7) dNil))))) (dC .non))) (dRet (dC (.bl false))) dNext) (dSeq (dAsg (dC .non) (hName 8)) (dSeq (dFor (jRng1 (dCons (dCall g_l_take noX (dCons (dVar 1) (dCons (dC (.int 3)) dNil))) dNil)) (hName 9) (dSeq (dAsg (dCall g_l_take noX (dCons (dVar 1) (dCons (dCB uLen (dCons (dVar 6) dNil)) dNil))) (hName 10)) (dSeq (dDrop (dCall g_l_bend noX (dCons (dVar 1) (dCons (dVar 6) (dCons (dVar 7) (dCons (dOp uAdd (dC (.str [45])) (dVar 2)) (dCons (dVar 10) dNil))))))) (dAsg (dIf (dTest (dOp uIs (dVar 8) (dC .non))) (dVar 10) (dCB uMin2 (dCons (dVar 8) (dCons (dVar 10) dNil)))) (hName 8))))) (dSeq (dAsg (dCall g_l_take noX (dCons (dVar 1) (dCons (dC (.int 8)) dNil))) (hName 11)) (dCut (dIfS (dTest (dOp uEq (dVar 11) (dC (.int 0)))) (dAsg (dSl uSl (dVar 7) (dPart (dC (.int 1))) dNoPart) (hName 7)) dNext) (dCut (dIfS (dTest (dOp uEq (dVar 11) (dC (.int 1)))) (dDrop (dBm tyL uApp (dVar 7) (dCons (dC (.str [])) dNil))) dNext) (dCut (dIfS (dTest (dOp uEq (dVar 11) (dC (.int 2)))) (dAsg (dOp uAdd (dVar 5) (dC (.str [65]))) (hName 5)) dNext) (dCut (dIfS (dTest (dOp uEq (dVar 11) (dC (.int 3)))) (dAsg (dLst dNil) (hName 6)) dNext) (dCut (dIfS (dTest (dOp uLt (dVar 11) (dC (.int 4)))) (dAsg (dUn uNeg (dC (.int 1))) (hName 8)) dNext) (dSeq (dAsg (dLcG (jLs (dVar 6)) (hName 13) dYes (dCB uList (dCons (dVar 13) dNil)) [13]) (hName 12)) (dSeq (dAsg (dCall g_l_told noX (dCons (dVar 3) (dCons (dVar 5) (dCons (dVar 6) (dCons (dVar 7) dNil))))) (hName 14)) (dSeq (dIfS (dOr (dTest (dOp uNe (dVar 14) (dVar 8))) (dAnd (dTest (dOp uIsNot (dVar 14) (dC .non))) (dNot (dTru (dCall g_l_is_integer noX (dCons (dVar 14) dNil)))))) (dRet (dC (.bl false))) dNext) (dSeq (dIfS (dAnd (dTest (dOp uIsNot (dVar 8) (dC .non))) (dNot (dTru (dCall g_l_kinds noX (dCons (dVar 3) (dCons (dVar 5) (dCons (dVar 6) (dCons (dVar 7) dNil)))))))) (dRet (dC (.bl false))) dNext) (dRet (dAndV (dOp uEq (dCall g_l_told noX (dCons (dVar 3) (dCons (dC (.str [])) (dCons (dLst dNil) (dCons (dLst dNil) dNil))))) (dUn uNeg (dC (.int 1)))) (dOp uEqD (dVar 6) (dVar 12)))))))))))))))))))))))
def cs_ : List Cn := [.Alphabet, .Machine]
theorem in_Alphabet : Cn.Alphabet ∈ cs_ := by decide
theorem in_Machine : Cn.Machine ∈ cs_ := by decide
abbrev sp_BadAlphabet_init (K : PySem.W.Frag) : Sp := spX1 (ga K "BadAlphabet") "part"
def t_BadAlphabet_init (P : Program) (w : World) (K : PySem.W.Frag) : TS :=
  tSeq (tDrop (tVeI K (tCons (tVar 0) (tCons (tC (sv [97, 110, 32, 97, 114, 103, 117, 109, 101, 110, 116, 32, 111, 102, 32, 97, 110, 32, 97, 108, 112, 104, 97, 98, 101, 116, 32, 105, 115, 32, 119, 114, 111, 110, 103])) tNil)))) (tOst K "part" (tVar 0) (tVar 1))
abbrev sp_all_different (K : PySem.W.Frag) : Sp := spD K cs_ g_all_different
def t_all_different (P : Program) (w : World) (K : PySem.W.Frag) : TS :=
  tRet (tOp (zEq K) (tCB (zLenS P w K) (tCons (tCB (zSet P w) (tCons (tVar 0) tNil)) tNil)) (tCB (zLenS P w K) (tCons (tVar 0) tNil)))
abbrev sp_Alphabet_init (K : PySem.W.Frag) : Sp := spD K cs_ g_Alphabet_init
def t_Alphabet_init (P : Program) (w : World) (K : PySem.W.Frag) (E : XK) : TS :=
  tSeq (tAsg (tLc (iStr (tVar 1)) (gName 4) (tTest (tOp (zNotIn K) (tVar 4) (tC (sv [97, 98, 99, 100, 101, 102, 103, 104, 105, 106, 107, 108, 109, 110, 111, 112, 113, 114, 115, 116, 117, 118, 119, 120, 121, 122])))) (tVar 4) [4]) (gName 3)) (tSeq (tIfS (tOr (tTru K (tVar 3)) (tOr (tNot (tTest (tChain zLe zLe (tC (.int 1)) (tCB (zLenS P w K) (tCons (tVar 1) tNil)) (tCVal K (tC (.ref (ga K "Alphabet"))) "MOST")))) (tNot (tTru K (tCall (sp_all_different K) [] E0 (tCons (tVar 1) tNil)))))) (tRaiseE E (ga K "BadAlphabet") (sp_BadAlphabet_init K) (tCons (tC (sv [108, 101, 116, 116, 101, 114, 115])) tNil)) tNext) (tSeq (tIfS (tOr (tTru K (tLc (iStr (tVar 2)) (gName 4) (tTest (tOp (zNotIn K) (tVar 4) (tVar 1))) (tVar 4) [4])) (tNot (tTru K (tCall (sp_all_different K) [] E0 (tCons (tVar 2) tNil))))) (tRaiseE E (ga K "BadAlphabet") (sp_BadAlphabet_init K) (tCons (tC (sv [118, 111, 119, 101, 108, 115])) tNil)) tNext) (tSeq (sFld K (tVar 0) (tBM K "str" (zJoin K) (tC (sv [])) (tCons (tCB (zSortedS P w K) (tCons (tVar 1) tNil)) tNil)) "letters") (tSeq (sFld K (tVar 0) (tBM K "str" (zJoin K) (tC (sv [])) (tCons (tCB (zSortedS P w K) (tCons (tVar 2) tNil)) tNil)) "vowels") (tSeq (sFld K (tVar 0) (tBM K "str" (zJoin K) (tC (sv [])) (tCons (tLc (iList K (tCB (zSortedS P w K) (tCons (tVar 1) tNil))) (gName 4) (tTest (tOp (zNotIn K) (tVar 4) (tVar 2))) (tVar 4) [4]) tNil)) "consonants") (sFld K (tVar 0) (tOp zAdd (tCVal K (tC (.ref (ga K "Alphabet"))) "JOINT") (tFld K (tVar 0) "letters")) "signs"))))))
abbrev sp_Alphabet_is_word (K : PySem.W.Frag) : Sp := spD K cs_ g_Alphabet_is_word
def t_Alphabet_is_word (P : Program) (w : World) (K : PySem.W.Frag) : TS :=
  tSeq (tFor (iStr (tVar 1)) (gName 2) (tIfS (tTest (tOp (zNotIn K) (tVar 2) (tFld K (tVar 0) "signs"))) (tRet (tC (.bl false))) tNext)) (tRet (tC (.bl true)))
abbrev sp_BadTable_init (K : PySem.W.Frag) : Sp := spX1 (ga K "BadTable") "place"
def t_BadTable_init (P : Program) (w : World) (K : PySem.W.Frag) : TS :=
  tSeq (tDrop (tVeI K (tCons (tVar 0) (tCons (tC (sv [97, 32, 116, 97, 98, 108, 101, 32, 111, 102, 32, 97, 32, 115, 116, 111, 99, 107, 32, 111, 114, 32, 111, 102, 32, 97, 32, 109, 97, 99, 104, 105, 110, 101, 32, 105, 115, 32, 119, 114, 111, 110, 103])) tNil)))) (tOst K "place" (tVar 0) (tVar 1))
abbrev sp_check_machine (K : PySem.W.Frag) : Sp := spD K cs_ g_check_machine
def t_check_machine (P : Program) (w : World) (K : PySem.W.Frag) (E : XK) : TS :=
  tSeq (tIfS (tOr (tNot (tTru K (tVar 2))) (tOr (tTest (tOp (zNe K) (tCB (zLenS P w K) (tCons (tVar 2) tNil)) (tCB (zLenS P w K) (tCons (tVar 3) tNil)))) (tNot (tTru K (tMethN (okM K cs_ gm_is_word) "is_word" [] E0 (tVar 0) (tCons (tVar 1) tNil)))))) (tRaiseE E (ga K "BadTable") (sp_BadTable_init K) (tCons (tUn zNeg (tC (.int 1))) tNil)) tNext) (tFor (iRng1 (tCons (tCB (zLenS P w K) (tCons (tVar 2) tNil)) tNil)) (gName 4) (tSeq (tIfS (tTest (tOp (zNe K) (tCB (zLenS P w K) (tCons (tOp (zIx K) (tVar 2) (tVar 4)) tNil)) (tCB (zLenS P w K) (tCons (tFld K (tVar 0) "signs") tNil)))) (tRaiseE E (ga K "BadTable") (sp_BadTable_init K) (tCons (tVar 4) tNil)) tNext) (tSeq (tFor (iList K (tOp (zIx K) (tVar 2) (tVar 4))) (gName 5) (tIfS (tAnd (tTest (tOp zIsNot (tVar 5) (tC .non))) (tNot (tAnd (tTest (tChain zLe zLt (tC (.int 0)) (tOp (zIx K) (tVar 5) (tC (.int 0))) (tCB (zLenS P w K) (tCons (tVar 2) tNil)))) (tTru K (tMethN (okM K cs_ gm_is_word) "is_word" [] E0 (tVar 0) (tCons (tOp (zIx K) (tVar 5) (tC (.int 1))) tNil)))))) (tRaiseE E (ga K "BadTable") (sp_BadTable_init K) (tCons (tVar 4) tNil)) tNext)) (tIfS (tAnd (tTest (tOp zIsNot (tOp (zIx K) (tVar 3) (tVar 4)) (tC .non))) (tNot (tTru K (tMethN (okM K cs_ gm_is_word) "is_word" [] E0 (tVar 0) (tCons (tOp (zIx K) (tVar 3) (tVar 4)) tNil))))) (tRaiseE E (ga K "BadTable") (sp_BadTable_init K) (tCons (tVar 4) tNil)) tNext))))
abbrev sp_Machine_init (K : PySem.W.Frag) : Sp := spD K cs_ g_Machine_init
def t_Machine_init (P : Program) (w : World) (K : PySem.W.Frag) (E : XK) : TS :=
  tSeq (tDrop (tCall (sp_check_machine K) [] E (tCons (tVar 1) (tCons (tVar 2) (tCons (tVar 3) (tCons (tVar 4) tNil)))))) (tSeq (sFld K (tVar 0) (tVar 1) "alphabet") (tSeq (sFld K (tVar 0) (tVar 2) "first") (tSeq (sFld K (tVar 0) (tLc (iList K (tVar 3)) (gName 5) tYes (tCB (zListT K) (tCons (tVar 5) tNil)) [5]) "rows") (sFld K (tVar 0) (tCB (zListT K) (tCons (tVar 4) tNil)) "ends"))))
abbrev sp_l_bag (K : PySem.W.Frag) : Sp := spD K cs_ g_l_bag
def t_l_bag (P : Program) (w : World) (K : PySem.W.Frag) : TS :=
  tRet (tLst (tCons (tCB (zListT K) (tCons (tSl (zSl K) (tVar 0) tNoPart (tPart (tC (.int 63)))) tNil)) (tCons (tC (.int 0)) (tCons (tC (.int 0)) (tCons (tC (.int 1)) tNil)))))
abbrev sp_l_take (K : PySem.W.Frag) : Sp := spD K cs_ g_l_take
def t_l_take (P : Program) (w : World) (K : PySem.W.Frag) : TS :=
  tSeq (tIfS (tTest (tOp zGt (tOp (zIx K) (tVar 0) (tC (.int 2))) (tC (.int 0)))) (tSeq (tAsg (tCB zInt2 (tCons (tOp (zIx K) (tVar 0) (tC (.int 2))) tNil)) (gName 2)) (tSeq (tAsg (tOp zDiv (tVar 2) (tVar 1)) (gSub (tVar 0) (tC (.int 2)) rSetL)) (tRet (tOp zMod (tCB zInt2 (tCons (tVar 2) tNil)) (tVar 1))))) tNext) (tSeq (tAsg (tC (.int 0)) (gName 3)) (tSeq (tIfS (tTest (tOp zLt (tOp (zIx K) (tVar 0) (tC (.int 1))) (tCB (zLenS P w K) (tCons (tOp (zIx K) (tVar 0) (tC (.int 0))) tNil)))) (tAsg (tOp (zIx K) (tOp (zIx K) (tVar 0) (tC (.int 0))) (tOp (zIx K) (tVar 0) (tC (.int 1)))) (gName 3)) tNext) (tSeq (tAsg (tOp zAdd (tOp (zIx K) (tVar 0) (tC (.int 1))) (tC (.int 1))) (gSub (tVar 0) (tC (.int 1)) rSetL)) (tSeq (tIfS (tTest (tOp zGe (tVar 3) (tOp zPow (tC (.int 10)) (tC (.int 18))))) (tSeq (tAsg (tOp zDiv (tVar 3) (tVar 1)) (gSub (tVar 0) (tC (.int 2)) rSetL)) (tRet (tOp zMod (tCB zInt2 (tCons (tVar 3) tNil)) (tVar 1)))) tNext) (tSeq (tAsg (tOp zMod (tCB zInt2 (tCons (tOp zAdd (tOp zAdd (tOp zMul (tOp (zIx K) (tVar 0) (tC (.int 3))) (tC (.int 48271))) (tOp zMul (tVar 3) (tC (.int 69621)))) (tOp zMul (tOp (zIx K) (tVar 0) (tC (.int 1))) (tC (.int 7919)))) tNil)) (tC (.int 2147483647))) (gSub (tVar 0) (tC (.int 3)) rSetL)) (tRet (tOp zMod (tOp zDiv (tCB zInt2 (tCons (tOp (zIx K) (tVar 0) (tC (.int 3))) tNil)) (tC (.int 16))) (tVar 1))))))))
abbrev sp_l_letters (K : PySem.W.Frag) : Sp := spD K cs_ g_l_letters
def t_l_letters (P : Program) (w : World) (K : PySem.W.Frag) : TS :=
  tSeq (tAsg (tCB (zListT K) (tCons (tC (sv [97, 98, 99, 100, 101, 102, 103, 104, 105, 106, 107, 108, 109, 110, 111, 112, 113, 114, 115, 116, 117, 118, 119, 120, 121, 122])) tNil)) (gName 2)) (tSeq (tAsg (tC (sv [])) (gName 3)) (tSeq (tFor (iRng1 (tCons (tOp zAdd (tC (.int 1)) (tCall (sp_l_take K) [] E0 (tCons (tVar 0) (tCons (tVar 1) tNil)))) tNil)) (gName 4) (tAsg (tOp zAdd (tVar 3) (tBM K "list" zPop (tVar 2) (tCons (tCall (sp_l_take K) [] E0 (tCons (tVar 0) (tCons (tCB (zLenS P w K) (tCons (tVar 2) tNil)) tNil))) tNil))) (gName 3))) (tRet (tBM K "str" (zJoin K) (tC (sv [])) (tCons (tCB (zSortedS P w K) (tCons (tVar 3) tNil)) tNil)))))
abbrev sp_l_vowels (K : PySem.W.Frag) : Sp := spD K cs_ g_l_vowels
def t_l_vowels (P : Program) (w : World) (K : PySem.W.Frag) : TS :=
  tRet (tBM K "str" (zJoin K) (tC (sv [])) (tCons (tLc (iStr (tVar 1)) (gName 2) tYes (tOp (zIx K) (tLst (tCons (tC (sv [])) (tCons (tVar 2) tNil))) (tCall (sp_l_take K) [] E0 (tCons (tVar 0) (tCons (tC (.int 2)) tNil)))) [2]) tNil))
abbrev sp_l_word (K : PySem.W.Frag) : Sp := spD K cs_ g_l_word
def t_l_word (P : Program) (w : World) (K : PySem.W.Frag) : TS :=
  tSeq (tAsg (tC (sv [])) (gName 3)) (tSeq (tFor (iRng1 (tCons (tCall (sp_l_take K) [] E0 (tCons (tVar 0) (tCons (tOp zAdd (tVar 2) (tC (.int 1))) tNil))) tNil)) (gName 4) (tIfS (tAnd (tTest (tOp (zNe K) (tVar 3) (tC (sv [])))) (tTest (tOp (zEq K) (tCall (sp_l_take K) [] E0 (tCons (tVar 0) (tCons (tC (.int 4)) tNil))) (tC (.int 0))))) (tAsg (tOp zAdd (tVar 3) (tOp (zIx K) (tVar 3) (tUn zNeg (tC (.int 1))))) (gName 3)) (tAsg (tOp zAdd (tVar 3) (tOp (zIx K) (tVar 1) (tCall (sp_l_take K) [] E0 (tCons (tVar 0) (tCons (tCB (zLenS P w K) (tCons (tVar 1) tNil)) tNil))))) (gName 3)))) (tRet (tVar 3)))
abbrev sp_l_table (K : PySem.W.Frag) : Sp := spD K cs_ g_l_table
def t_l_table (P : Program) (w : World) (K : PySem.W.Frag) : TS :=
  tSeq (tAsg (tOp zAdd (tC (.int 1)) (tCall (sp_l_take K) [] E0 (tCons (tVar 0) (tCons (tVar 2) tNil)))) (gName 3)) (tSeq (tAsg (tLst tNil) (gName 4)) (tSeq (tAsg (tLst tNil) (gName 5)) (tSeq (tFor (iRng1 (tCons (tVar 3) tNil)) (gName 6) (tSeq (tAsg (tLst tNil) (gName 7)) (tSeq (tFor (iRng1 (tCons (tCB (zLenS P w K) (tCons (tVar 1) tNil)) tNil)) (gName 8) (tSeq (tAsg (tOp zSub (tCall (sp_l_take K) [] E0 (tCons (tVar 0) (tCons (tOp zAdd (tVar 3) (tC (.int 1))) tNil))) (tC (.int 1))) (gName 9)) (tSeq (tAsg (tCall (sp_l_word K) [] E0 (tCons (tVar 0) (tCons (tVar 1) (tCons (tC (.int 2)) tNil)))) (gName 10)) (tDrop (tBM K "list" zApp (tVar 7) (tCons (tIf (tTest (tOp zLt (tVar 9) (tC (.int 0)))) (tC .non) (tTup (tCons (tVar 9) (tCons (tVar 10) tNil)))) tNil)))))) (tSeq (tDrop (tBM K "list" zApp (tVar 4) (tCons (tVar 7) tNil))) (tSeq (tAsg (tCall (sp_l_word K) [] E0 (tCons (tVar 0) (tCons (tVar 1) (tCons (tC (.int 2)) tNil)))) (gName 11)) (tDrop (tBM K "list" zApp (tVar 5) (tCons (tIf (tTest (tOp (zEq K) (tCall (sp_l_take K) [] E0 (tCons (tVar 0) (tCons (tC (.int 3)) tNil))) (tC (.int 0)))) (tC .non) (tVar 11)) tNil)))))))) (tRet (tTup (tCons (tCall (sp_l_word K) [] E0 (tCons (tVar 0) (tCons (tVar 1) (tCons (tC (.int 2)) tNil)))) (tCons (tVar 4) (tCons (tVar 5) tNil))))))))
abbrev sp_l_is_integer (K : PySem.W.Frag) : Sp := spD K cs_ g_l_is_integer
def t_l_is_integer (P : Program) (w : World) (K : PySem.W.Frag) : TS :=
  tRet (tAndV (tCB (zIsi K) (tCons (tVar 0) (tCons (tC (.ty "int")) tNil))) (tNotV (tCB (zIsi K) (tCons (tVar 0) (tCons (tC (.ty "bool")) tNil)))))
abbrev sp_l_told (K : PySem.W.Frag) : Sp := spD K cs_ g_l_told
def t_l_told (P : Program) (w : World) (K : PySem.W.Frag) : TS :=
  tSeq (fun D σ H => (fun (W : WX) => tDrop (tMakeS (ga K "Machine") (sp_Machine_init K) [] (WE W) (tCons (tVar 0) (tCons (tVar 1) (tCons (tVar 2) (tCons (tVar 3) tNil)))))) (wAs K (.ref (ga K "BadTable")) 4 (fun a cls d => tRet (tXf a cls d (ga K "BadTable") "place" (tVar 4))) (fun _ _ _ _ => False) D) D σ H) (tRet (tC .non))
abbrev sp_l_kinds (K : PySem.W.Frag) : Sp := spD K cs_ g_l_kinds
def t_l_kinds (P : Program) (w : World) (K : PySem.W.Frag) : TS :=
  tSeq (fun D σ H => (fun (W : WX) => tDrop (tMakeS (ga K "Machine") (sp_Machine_init K) [] (WE W) (tCons (tVar 0) (tCons (tVar 1) (tCons (tVar 2) (tCons (tVar 3) tNil)))))) (wAs K (.ref (ga K "ClipError")) 4 (fun a cls d => tRet (tAndV (tCB (rIsW K a cls d) (tCons (tVar 4) (tCons (tC (.ty "ValueError")) tNil))) (tAndV (tCB (rIsW K a cls d) (tCons (tVar 4) (tCons (tC (.ref (ga K "BadTable"))) tNil))) (tNotV (tCB (rIsW K a cls d) (tCons (tVar 4) (tCons (tC (.ref (ga K "BadWord"))) tNil))))))) (fun _ _ _ _ => False) D) D σ H) (tRet (tC (.bl false)))
abbrev sp_l_bend (K : PySem.W.Frag) : Sp := spD K cs_ g_l_bend
def t_l_bend (P : Program) (w : World) (K : PySem.W.Frag) : TS :=
  tSeq (tAsg (tCall (sp_l_take K) [] E0 (tCons (tVar 0) (tCons (tC (.int 6)) tNil))) (gName 5)) (tSeq (tAsg (tCall (sp_l_take K) [] E0 (tCons (tVar 0) (tCons (tCB (zLenS P w K) (tCons (tVar 3) tNil)) tNil))) (gName 6)) (tSeq (tAsg (tLc (iStr (tVar 3)) (gName 8) tYes (tTup (tCons (tC (.int 0)) (tCons (tOp (zIx K) (tVar 3) (tC (.int 0))) tNil))) [8]) (gName 7)) (tSeq (tAsg (tOp (zIx K) (tLst (tCons (tCB (zLenS P w K) (tCons (tVar 1) tNil)) (tCons (tUn zNeg (tC (.int 1))) (tCons (tOp zAdd (tOp zPow (tC (.int 10)) (tC (.int 15))) (tCall (sp_l_take K) [] E0 (tCons (tVar 0) (tCons (tOp zPow (tC (.int 10)) (tC (.int 15))) tNil)))) (tCons (tUn zNeg (tC (.int 2))) tNil))))) (tCall (sp_l_take K) [] E0 (tCons (tVar 0) (tCons (tC (.int 4)) tNil)))) (gName 9)) (tSeq (tIfS (tTest (tOp (zEq K) (tVar 5) (tC (.int 0)))) (tAsg (tSl (zSl K) (tVar 7) (tPart (tC (.int 1))) tNoPart) (gSub (tVar 1) (tVar 4) rSetL)) tNext) (tSeq (tIfS (tTest (tOp (zEq K) (tVar 5) (tC (.int 1)))) (tAsg (tOp zAdd (tVar 7) (tLst (tCons (tC .non) tNil))) (gSub (tVar 1) (tVar 4) rSetL)) tNext) (tSeq (tIfS (tTest (tOp (zEq K) (tVar 5) (tC (.int 2)))) (tAsg (tOp zAdd (tOp zAdd (tSl (zSl K) (tVar 7) tNoPart (tPart (tVar 6))) (tLst (tCons (tTup (tCons (tVar 9) (tCons (tC (sv [])) tNil))) tNil))) (tSl (zSl K) (tVar 7) (tPart (tOp zAdd (tVar 6) (tC (.int 1)))) tNoPart)) (gSub (tVar 1) (tVar 4) rSetL)) tNext) (tSeq (tIfS (tTest (tOp (zEq K) (tVar 5) (tC (.int 3)))) (tAsg (tOp zAdd (tOp zAdd (tSl (zSl K) (tVar 7) tNoPart (tPart (tVar 6))) (tLst (tCons (tTup (tCons (tC (.int 0)) (tCons (tOp zAdd (tVar 3) (tC (sv [65]))) tNil))) tNil))) (tSl (zSl K) (tVar 7) (tPart (tOp zAdd (tVar 6) (tC (.int 1)))) tNoPart)) (gSub (tVar 1) (tVar 4) rSetL)) tNext) (tSeq (tIfS (tTest (tOp (zEq K) (tVar 5) (tC (.int 4)))) (tAsg (tC (sv [32])) (gSub (tVar 2) (tVar 4) rSetL)) tNext) (tIfS (tTest (tOp (zEq K) (tVar 5) (tC (.int 5)))) (tAsg (tOp zAdd (tOp (zIx K) (tVar 3) (tC (.int 0))) (tC (sv [63]))) (gSub (tVar 2) (tVar 4) rSetL)) tNext)))))))))
abbrev sp_law (K : PySem.W.Frag) : Sp := spD K cs_ g_law
def t_law (P : Program) (w : World) (K : PySem.W.Frag) : TS :=
  tSeq (tAsg (tCall (sp_l_bag K) [] E0 (tCons (tVar 0) tNil)) (gName 1)) (tSeq (tAsg (tCall (sp_l_letters K) [] E0 (tCons (tVar 1) (tCons (tC (.int 3)) tNil))) (gName 2)) (tSeq (tAsg (tMake (ga K "Alphabet") (sp_Alphabet_init K) [] E0 (tCons (tVar 2) (tCons (tCall (sp_l_vowels K) [] E0 (tCons (tVar 1) (tCons (tVar 2) tNil))) tNil))) (gName 3)) (tSeq (tAsg (tCall (sp_l_table K) [] E0 (tCons (tVar 1) (tCons (tOp zAdd (tC (sv [45])) (tVar 2)) (tCons (tC (.int 4)) tNil)))) (gName 4)) (tSeq (tAsg (tOp (zIx K) (tVar 4) (tC (.int 0))) (gName 5)) (tSeq (tAsg (tOp (zIx K) (tVar 4) (tC (.int 1))) (gName 6)) (tSeq (tAsg (tOp (zIx K) (tVar 4) (tC (.int 2))) (gName 7)) (tSeq (tIfS (tTest (tOp zIsNot (tCall (sp_l_told K) [] E0 (tCons (tVar 3) (tCons (tVar 5) (tCons (tVar 6) (tCons (tVar 7) tNil))))) (tC .non))) (tRet (tC (.bl false))) tNext) (tSeq (tAsg (tC .non) (gName 8)) (tSeq (tFor (iRng1 (tCons (tCall (sp_l_take K) [] E0 (tCons (tVar 1) (tCons (tC (.int 3)) tNil))) tNil)) (gName 9) (tSeq (tAsg (tCall (sp_l_take K) [] E0 (tCons (tVar 1) (tCons (tCB (zLenS P w K) (tCons (tVar 6) tNil)) tNil))) (gName 10)) (tSeq (tDrop (tCall (sp_l_bend K) [] E0 (tCons (tVar 1) (tCons (tVar 6) (tCons (tVar 7) (tCons (tOp zAdd (tC (sv [45])) (tVar 2)) (tCons (tVar 10) tNil))))))) (tAsg (tIf (tTest (tOp zIs (tVar 8) (tC .non))) (tVar 10) (tCB zMin2 (tCons (tVar 8) (tCons (tVar 10) tNil)))) (gName 8))))) (tSeq (tAsg (tCall (sp_l_take K) [] E0 (tCons (tVar 1) (tCons (tC (.int 8)) tNil))) (gName 11)) (tSeq (tIfS (tTest (tOp (zEq K) (tVar 11) (tC (.int 0)))) (tAsg (tSl (zSl K) (tVar 7) (tPart (tC (.int 1))) tNoPart) (gName 7)) tNext) (tSeq (tIfS (tTest (tOp (zEq K) (tVar 11) (tC (.int 1)))) (tDrop (tBM K "list" zApp (tVar 7) (tCons (tC (sv [])) tNil))) tNext) (tSeq (tIfS (tTest (tOp (zEq K) (tVar 11) (tC (.int 2)))) (tAsg (tOp zAdd (tVar 5) (tC (sv [65]))) (gName 5)) tNext) (tSeq (tIfS (tTest (tOp (zEq K) (tVar 11) (tC (.int 3)))) (tAsg (tLst tNil) (gName 6)) tNext) (tSeq (tIfS (tTest (tOp zLt (tVar 11) (tC (.int 4)))) (tAsg (tUn zNeg (tC (.int 1))) (gName 8)) tNext) (tSeq (tAsg (tLc (iList K (tVar 6)) (gName 13) tYes (tCB (zListT K) (tCons (tVar 13) tNil)) [13]) (gName 12)) (tSeq (tAsg (tCall (sp_l_told K) [] E0 (tCons (tVar 3) (tCons (tVar 5) (tCons (tVar 6) (tCons (tVar 7) tNil))))) (gName 14)) (tSeq (tIfS (tOr (tTest (tOp (zNe K) (tVar 14) (tVar 8))) (tAnd (tTest (tOp zIsNot (tVar 14) (tC .non))) (tNot (tTru K (tCall (sp_l_is_integer K) [] E0 (tCons (tVar 14) tNil)))))) (tRet (tC (.bl false))) tNext) (tSeq (tIfS (tAnd (tTest (tOp zIsNot (tVar 8) (tC .non))) (tNot (tTru K (tCall (sp_l_kinds K) [] E0 (tCons (tVar 3) (tCons (tVar 5) (tCons (tVar 6) (tCons (tVar 7) tNil)))))))) (tRet (tC (.bl false))) tNext) (tRet (tAndV (tOp (zEq K) (tCall (sp_l_told K) [] E0 (tCons (tVar 3) (tCons (tC (sv [])) (tCons (tLst tNil) (tCons (tLst tNil) tNil))))) (tUn zNeg (tC (.int 1)))) (tOp (zEq K) (tVar 6) (tVar 12)))))))))))))))))))))))
end Cl.Kl
namespace Cl.Kl
open PySem PySem.Spec PyProof.Rows L2 He ClX
local macro_rules | `(tactic| walk_at "sz") => `(tactic| (rw [sizeLine_eq]; (try simp only [List.length_append, List.length_cons, List.length_nil, List.length_map, List.length_reverse]); omega))
local macro_rules | `(tactic| walk_at "ds") => `(tactic| repeat (first
  | with_reducible refine k_seq ?_
  | with_reducible refine k_asg ?_
  | with_reducible refine k_var (by with_unfolding_all exact rfl) ?_
  | with_reducible refine k_c ?_
  | with_reducible refine k_op ?_
  | with_reducible refine k_cons ?_
  | with_reducible refine k_nil ?_
  | with_reducible refine k_name ?_
  | with_reducible refine k_ifS ?_
  | with_reducible refine k_test ?_
  | with_reducible refine k_bl ?_
  | with_reducible refine iteT ?_
  | with_reducible refine iteF ?_
  | with_reducible refine k_nf ?_
  | with_reducible refine k_nt ?_
  | with_reducible refine k_ret ?_
  | with_reducible refine k_cb ?_
  | with_reducible refine k_call ?_
  | with_reducible refine k_not ?_
  | with_reducible refine k_and ?_
  | with_reducible refine k_or ?_
  | with_reducible refine k_drop ?_
  | with_reducible refine k_next ?_
  | with_reducible refine k_bm ?_
  | with_reducible refine k_tyS ?_
  | with_reducible refine k_un ?_
  | with_reducible refine k_neg ?_
  | with_reducible refine k_fld ?_
  | with_reducible refine k_meth ?_
  | with_reducible refine k_tru ?_
  | with_reducible refine k_truB ?_
  | with_reducible refine k_truL ?_
  | with_reducible refine k_sl ?_
  | with_reducible refine k_part ?_
  | with_reducible refine k_nopart ?_
  | with_reducible refine k_i ?_
  | with_reducible refine k_s ?_
  | with_reducible refine k_l ?_
  | with_reducible refine k_tu ?_
  | with_reducible refine k_tup ?_
  | with_reducible refine k_lst ?_
  | with_reducible refine k_tupC ?_
  | with_reducible refine k_pu (by with_unfolding_all exact rfl) (by walk_at "sz") ?_
  | with_reducible refine k_lstC ?_
  | with_reducible refine k_lc ?_
  | with_reducible refine k_yes ?_
  | with_reducible refine k_for ?_
  | with_reducible refine k_jstr ?_
  | with_reducible refine k_jlst ?_
  | with_reducible refine k_jtup ?_
  | with_reducible refine k_rng1 ?_
  | with_reducible refine k_if ?_
  | with_reducible refine k_andV ?_
  | with_reducible refine k_orV ?_
  | with_reducible refine k_notV ?_
  | with_reducible refine k_chain ?_
  | with_reducible refine k_raise ?_
  | with_reducible refine k_stf ?_
  | with_reducible refine k_frz ?_
  | with_reducible refine k_frzV _ ?_
  | with_reducible refine k_make ?_
  | with_reducible refine k_try ?_
  | with_reducible refine k_callI ?_
  | with_reducible refine k_callIS ?_
  | with_reducible refine k_xf ?_
  | with_reducible refine k_sub ?_
  | with_reducible refine k_fs ?_
  | with_reducible refine k_js ?_
  | with_reducible refine k_jnil ?_
  | with_reducible refine k_fmt ?_
  | with_reducible refine k_rev ?_
  | with_reducible refine k_lenSet ?_
  | with_reducible refine k_srtSet ?_
  | with_reducible refine k_gcons ?_
  | with_reducible refine k_gnil ?_
  | with_reducible refine k_gtup (by rfl) ?_
  | with_reducible refine k_addI ?_
  | with_reducible refine k_subI ?_
  | with_reducible refine k_lt ?_
  | with_reducible refine k_le ?_
  | with_reducible refine k_gt ?_
  | with_reducible refine k_ge ?_
  | with_reducible refine k_in ?_
  | with_reducible refine k_notin ?_
  | with_reducible refine k_isN ?_
  | with_reducible refine k_isnotN ?_
  | with_reducible refine k_isB ?_
  | with_reducible refine k_isnotB ?_
  | with_reducible refine k_int ?_
  | with_reducible refine k_intB ?_
  | with_reducible refine k_bool ?_
  | with_reducible refine k_neS ?_
  | with_reducible refine k_eqS ?_
  | with_reducible refine k_eq (by with_unfolding_all exact rfl) ?_
  | with_reducible refine k_ne (by with_unfolding_all exact rfl) ?_
  | with_reducible refine k_ixT (by with_unfolding_all exact rfl) ?_
  | with_reducible refine k_ixL (by with_unfolding_all exact rfl) ?_
  | with_reducible refine k_slL ?_
  | with_reducible refine k_lenL ?_
  | with_reducible refine k_lenT ?_
  | with_reducible refine k_listL ?_
  | with_reducible refine k_listT ?_
  | with_reducible refine k_fo (by with_unfolding_all exact rfl) ?_
  | with_reducible refine k_rng2 ?_
  | with_reducible refine k_star ?_
  | with_reducible refine k_makeR ?_
  | with_reducible refine k_cmeth ?_
  | with_reducible refine k_tupOf ?_
  | with_reducible refine k_tupT ?_
  | with_reducible refine k_tupL ?_
  | with_reducible refine k_cls ?_
  | with_reducible refine k_starT ?_
  | with_reducible refine k_starL ?_
  | with_reducible refine k_raise2 ?_
  | with_reducible refine k_raise0 ?_
  | with_reducible refine k_forG ?_
  | with_reducible refine k_jls ?_
  | with_reducible refine k_lcG ?_
  | with_reducible refine k_lcCG ?_
  | with_reducible refine k_gtup2 ?_
  | with_reducible refine k_gtup3 ?_
  | with_reducible refine k_gtup4 ?_
  | with_reducible refine k_truI ?_
  | with_reducible refine k_inI ?_
  | with_reducible refine k_boolI ?_
  | with_reducible refine k_obI ?_
  | with_reducible refine k_makeF ?_
  | with_reducible refine k_fz ?_
  | with_reducible refine k_fmtL ?_
  | with_reducible refine k_fmtI ?_
  | with_reducible refine k_ljust (by decide) ?_
  | with_reducible refine k_rjust (by decide) ?_
  | with_reducible refine k_putK ?_
  | with_reducible refine k_putN ?_
  | with_reducible refine k_newK ?_
  | with_reducible refine k_newN ?_
  | with_reducible refine k_dispC ?_
  | with_reducible refine k_pcons ?_
  | with_reducible refine k_pnil ?_
  | with_reducible refine k_dispN ?_
  | with_reducible refine k_get2 ?_
  | with_reducible refine k_lcC ?_
  | with_reducible refine k_gm1 ?_
  | with_reducible refine k_callSt ?_
  | with_reducible refine k_makeS ?_
  | with_reducible refine k_methS ?_
  | with_reducible refine k_sz (by walk_at "sz") ?_
  | with_reducible refine k_lenS (by walk_at "sz") ?_
  | with_reducible refine k_addS (by walk_at "sz") ?_
  | with_reducible refine k_slS (by walk_at "sz") ?_))
local macro_rules | `(tactic| walk_at "dz") => `(tactic| (walk_at "ds"; repeat (first
  | (with_reducible refine k_ixm0 ?_; walk_at "ds")
  | (with_reducible refine k_ixm1 ?_; walk_at "ds")
  | (with_reducible refine k_ixm2 ?_; walk_at "ds")
  | (with_reducible refine k_ixm3 ?_; walk_at "ds")
  | (with_reducible refine z_eq ?_; walk_at "ds")
  | (with_reducible refine z_neq ?_; walk_at "ds")
  | (with_reducible refine z_F (c := isNon (.v _)) (by with_unfolding_all exact rfl) ?_; walk_at "ds")
  | (with_reducible refine z_nF (c := isNon (.v _)) (by with_unfolding_all exact rfl) ?_; walk_at "ds")
  | (with_reducible refine z_T (c := isNon (.v _)) (by with_unfolding_all exact rfl) ?_; walk_at "ds")
  | (with_reducible refine z_nT (c := isNon (.v _)) (by with_unfolding_all exact rfl) ?_; walk_at "ds")
  | (with_reducible refine z_lnF (by first | omega | (simp; done) | (simp; omega)) ?_; walk_at "ds")
  | (with_reducible refine z_lnT (by first | omega | (simp; done) | (simp; omega)) ?_; walk_at "ds")
  | (with_reducible refine z_nlnF (by first | omega | (simp; done) | (simp; omega)) ?_; walk_at "ds")
  | (with_reducible refine z_nlnT (by first | omega | (simp; done) | (simp; omega)) ?_; walk_at "ds")
  | (with_reducible refine z_lgF (by first | omega | (simp; done) | (simp; omega)) ?_; walk_at "ds")
  | (with_reducible refine z_lgT (by first | omega | (simp; done) | (simp; omega)) ?_; walk_at "ds")
  | (with_reducible refine z_F (by decide) ?_; walk_at "ds")
  | (with_reducible refine z_T (by decide) ?_; walk_at "ds")
  | (with_reducible refine z_nF (by decide) ?_; walk_at "ds")
  | (with_reducible refine z_nT (by decide) ?_; walk_at "ds"))))
theorem ref_l_table (ds : List D) (M : Mem) (Q : DQ) (E : DX) (h : g_l_table ds M Q E) : r_l_table { nx := fun _ M' => Q (.v .non) M', rt := Q } (startD 12 ds) M := by
  obtain ⟨b, ls, top, rfl, hb, hll, ht1, ht2, q⟩ := h
  show r_l_table _ [some (.cell b), some (vS (45 :: ls)), some (vI top), none, none, none, none, none, none, none, none, none] M
  unfold r_l_table
  have hbl := hb.lt
  walk_at "dz"
  refine c_take hb (by omega) (by omega) fun r M1 hr d1 hb1 => ?_
  walk_at "dz"
  rw [show (1 + (r : Int)) = ((1 + r : Nat) : Int) by omega]
  rw [d1.len, show (M1 ++ [some (Cell.lst [])]).length = M.length + 1 by rw [List.length_append, d1.len]; rfl]
  refine ⟨_, rfl, by omega, by omega, ?_⟩
  rw [Int.toNat_natCast, List.append_assoc]
  refine loop_inv (fun i ds M' => ∃ (rs : List (List Stp)) (es : List (Option (List Nat))) (J M1 : Mem), ∃ v6 v7 v8 v9 v10 v11, M' = M1 ++ (some (.lst ((rs.map rowP).map D.v)) :: some (.lst ((es.map endP).map D.v)) :: J) ∧ Bd b M M1 ∧ rs.length = i ∧ es.length = i ∧ (∀ w ∈ rs, w.length = ls.length + 1) ∧ (∀ w ∈ rs, ∀ p t, some (p, t) ∈ w → 0 ≤ p ∧ p < ((1 + r : Nat) : Int) ∧ isW ls t = true ∧ t.length ≤ 2) ∧ (∀ t, some t ∈ es → isW ls t = true ∧ t.length ≤ 2) ∧ ds = [some (.cell b), some (vS (45 :: ls)), some (vI top), some (vI (1 + r : Nat)), some (.cell M.length), some (.cell (M.length + 1)), v6, v7, v8, v9, v10, v11]) ⟨[], [], [], M1, _, _, _, _, _, _, rfl, d1, rfl, rfl, (fun _ h => nomatch h), (fun _ h => nomatch h), (fun _ h => nomatch h), rfl⟩ ?_ ?_
  · rintro i x ds M' N hx ⟨rs, es, J, M2, v6, v7, v8, v9, v10, v11, rfl, d2, hrl, hel, hw, hs, he, rfl⟩ hN
    have hi : i < 1 + r := by
      have := (List.getElem?_eq_some_iff.mp hx).1
      rw [List.length_map, List.length_range] at this
      omega
    walk_at "dz"
    rw [show (M2 ++ (some (Cell.lst ((rs.map rowP).map D.v)) :: some (.lst ((es.map endP).map D.v)) :: J)).length = M.length + (J.length + 2) by rw [List.length_append, d2.len]; rfl]
    refine ⟨_, rfl, by rw [List.length_cons]; omega, by rw [List.length_cons]; omega, ?_⟩
    rw [Int.toNat_natCast, List.append_assoc]
    refine loop_inv (fun j ds M' => ∃ (w : List Stp) (M1 : Mem), ∃ v8 v9 v10, M' = M1 ++ (some (.lst ((rs.map rowP).map D.v)) :: some (.lst ((es.map endP).map D.v)) :: (J ++ [some (.lst ((w.map stpP).map D.v))])) ∧ Bd b M M1 ∧ w.length = j ∧ (∀ p t, some (p, t) ∈ w → 0 ≤ p ∧ p < ((1 + r : Nat) : Int) ∧ isW ls t = true ∧ t.length ≤ 2) ∧ ds = [some (.cell b), some (vS (45 :: ls)), some (vI top), some (vI (1 + r : Nat)), some (.cell M.length), some (.cell (M.length + 1)), some x, some (.cell (M.length + (J.length + 2))), v8, v9, v10, v11]) ⟨[], M2, _, _, _, rfl, d2, rfl, (fun _ _ h => nomatch h), rfl⟩ ?_ ?_
    · rintro j y ds M' N' hy ⟨w, M3, v8, v9, v10, rfl, d3, hwl, hws, rfl⟩ hN'
      have hj : j < ls.length + 1 := by
        have := (List.getElem?_eq_some_iff.mp hy).1
        rw [List.length_map, List.length_range, List.length_cons] at this
        omega
      walk_at "dz"
      refine c_take (d3.bg hb).app (by omega) (by omega) fun s M9 hs4 e9 _ => ?_
      obtain ⟨M4, rfl, e8⟩ := e9.app (by rw [d3.len]; exact hbl)
      have d4 := d3.trans e8
      walk_at "dz"
      refine c_word 2 (d4.bg hb).app (by simp) (by rw [List.length_cons]; omega) (by decide) fun t M9 ht5 htl e9 _ => ?_
      obtain ⟨M5, rfl, e8⟩ := e9.app (by rw [d4.len]; exact hbl)
      have d5 := d4.trans e8
      walk_at "dz"
      refine k_tyL (ls_cell ((getA d5.len _).trans getJ)) ?_
      walk_at "dz"
      refine ite2 (fun h => ?_) (fun h => ?_)
      · walk_at "dz"
        refine k_appAt ((getA d5.len _).trans getJ) (by rw [List.length_map, List.length_map, sizeLine_eq]; omega) ?_
        rw [setA d5.len, setJ]
        refine hN' _ _ ⟨w ++ [none], M5, _, _, _, by rw [List.map_append, List.map_append]; rfl, d5, by rw [List.length_append, hwl]; rfl, fun p u hu => ?_, rfl⟩
        rcases List.mem_append.mp hu with hu | hu
        · exact hws p u hu
        · cases List.mem_singleton.mp hu
      · have h0 : ¬ ((s : Int) - 1 < 0) := by simpa using h
        walk_at "dz"
        refine k_appAt ((getA d5.len _).trans getJ) (by rw [List.length_map, List.length_map, sizeLine_eq]; omega) ?_
        rw [setA d5.len, setJ]
        refine hN' _ _ ⟨w ++ [some ((s : Int) - 1, t)], M5, _, _, _, by rw [List.map_append, List.map_append]; rfl, d5, by rw [List.length_append, hwl]; rfl, fun p u hu => ?_, rfl⟩
        rcases List.mem_append.mp hu with hu | hu
        · exact hws p u hu
        · cases List.mem_singleton.mp hu
          exact ⟨by omega, by omega, isW_of ht5, htl⟩
    · rintro ds M' ⟨w, M3, v8, v9, v10, rfl, d3, hwl, hws, rfl⟩
      rw [List.length_map, List.length_range, List.length_cons] at hwl
      walk_at "dz"
      refine k_tyL (ls_cell ((getA d3.len 0).trans rfl)) ?_
      walk_at "dz"
      refine ⟨_, _, frz_cell ((getA d3.len _).trans getJ), ?_⟩
      rw [setA d3.len, setJ]
      walk_at "dz"
      refine k_appAt ((getA d3.len 0).trans rfl) (by rw [List.length_map, List.length_map, sizeLine_eq]; omega) ?_
      rw [show M.length = M.length + 0 from rfl, setA d3.len]
      walk_at "dz"
      refine c_word 2 (d3.bg hb).app (by simp) (by rw [List.length_cons]; omega) (by decide) fun t M9 ht5 htl e9 _ => ?_
      obtain ⟨M5, rfl, e8⟩ := e9.app (by rw [d3.len]; exact hbl)
      have d5 := d3.trans e8
      walk_at "dz"
      refine k_tyL (ls_cell ((getA d5.len 1).trans rfl)) ?_
      walk_at "dz"
      refine c_take (d5.bg hb).app (by omega) (by omega) fun s M9 hs4 e9 _ => ?_
      obtain ⟨M4, rfl, e8⟩ := e9.app (by rw [d5.len]; exact hbl)
      have d4 := d5.trans e8
      walk_at "dz"
      have fin : ∀ en : Option (List Nat), (∀ t, en = some t → isW ls t = true ∧ t.length ≤ 2) → ∀ v, v = endP en → uApp (.cell (M.length + 1)) [.v v] (M4 ++ List.set (some (Cell.lst ((rs.map rowP).map D.v)) :: some (.lst ((es.map endP).map D.v)) :: (J ++ [none])) 0 (some (.lst ((rs.map rowP).map D.v ++ [.v (.lst (w.map stpP))])))) fun _ M' => N [some (.cell b), some (vS (45 :: ls)), some (vI top), some (vI (1 + r : Nat)), some (.cell (M.length + 0)), some (.cell (M.length + 1)), some x, some (.cell (M.length + (J.length + 2))), v8, v9, v10, some (vS t)] M' := by
        rintro en hen v rfl
        refine k_appAt ((getA d4.len 1).trans rfl) (by rw [List.length_map, List.length_map, sizeLine_eq]; omega) ?_
        rw [setA d4.len]
        refine hN _ _ ⟨rs ++ [w], es ++ [en], J ++ [none], M4, _, _, _, _, _, _, by rw [List.map_append, List.map_append, List.map_append, List.map_append]; rfl, d4, by rw [List.length_append, hrl]; rfl, by rw [List.length_append, hel]; rfl, fun w' hw' => ?_, fun w' hw' => ?_, fun u hu => ?_, rfl⟩
        · rcases List.mem_append.mp hw' with h | h
          · exact hw w' h
          · rw [List.mem_singleton.mp h]; exact hwl
        · rcases List.mem_append.mp hw' with h | h
          · exact hs w' h
          · rw [List.mem_singleton.mp h]; exact hws
        · rcases List.mem_append.mp hu with h | h
          · exact he u h
          · exact hen u (List.mem_singleton.mp h).symm
      refine ite2 (fun h => ?_) (fun h => ?_)
      · walk_at "dz"
        exact fin none (fun _ h => nomatch h) _ rfl
      · walk_at "dz"
        exact fin (some t) (fun _ h => by cases h; exact ⟨isW_of ht5, htl⟩) _ rfl
  · rintro ds M' ⟨rs, es, J, M2, v6, v7, v8, v9, v10, v11, rfl, d2, hrl, hel, hw, hs, he, rfl⟩
    rw [List.length_map, List.length_range] at hrl hel
    walk_at "dz"
    refine c_word 2 (d2.bg hb).app (by simp) (by rw [List.length_cons]; omega) (by decide) fun t M9 ht5 htl e9 _ => ?_
    obtain ⟨M5, rfl, e8⟩ := e9.app (by rw [d2.len]; exact hbl)
    have d5 := d2.trans e8
    walk_at "dz"
    refine q t rs es _ _ M.length (M.length + 1) ⟨by intro h; rw [h, List.length_nil] at hrl; omega, by omega, htl, isW_of ht5, hw, fun w hw' p u hu => by rw [hrl]; exact hs w hw' p u hu, he⟩ (by omega) ⟨?_, ?_, hbl, by omega, by omega, (d5.bg hb).app.app⟩ (List.getElem?_concat_length ..)
    · rw [List.append_assoc]
      exact (getA d5.len 0).trans rfl
    · rw [List.append_assoc]
      exact (getA d5.len 1).trans rfl
theorem TabC.bd {M M' : Mem} {b r e : Nat} {rs : List (List Stp)} {es : List (Option (List Nat))} (h : TabC M b r e rs es) (d : Bd b M M') : TabC M' b r e rs es :=
  ⟨by rw [d.get (by have := h.br; omega)]; exact h.hr, by rw [d.get (by have := h.be; omega)]; exact h.he, h.br, h.be, h.re, d.bg h.bg⟩
theorem TabC.setr {M : Mem} {b r e : Nat} {rs rs' : List (List Stp)} {es : List (Option (List Nat))} (h : TabC M b r e rs es) : TabC (M.set r (some (.lst ((rs'.map rowP).map D.v)))) b r e rs' es := by
  have hr := (List.getElem?_eq_some_iff.mp h.hr).1
  obtain ⟨c, hc, hc2⟩ := h.bg
  exact ⟨List.getElem?_set_self hr, by rw [List.getElem?_set_ne h.re]; exact h.he, h.br, h.be, h.re, c, by rw [List.getElem?_set_ne (by have := h.br; omega)]; exact hc, hc2⟩
theorem TabC.sete {M : Mem} {b r e : Nat} {rs : List (List Stp)} {es es' : List (Option (List Nat))} (h : TabC M b r e rs es) : TabC (M.set e (some (.lst ((es'.map endP).map D.v)))) b r e rs es' := by
  have he := (List.getElem?_eq_some_iff.mp h.he).1
  obtain ⟨c, hc, hc2⟩ := h.bg
  exact ⟨by rw [List.getElem?_set_ne h.re.symm]; exact h.hr, List.getElem?_set_self he, h.br, h.be, h.re, c, by rw [List.getElem?_set_ne (by have := h.be; omega)]; exact hc, hc2⟩
theorem lay_row {w : List Stp} (h : ∀ q t, some (q, t) ∈ w → ∀ c ∈ t, c < 1114112) : (rowP w).lay 59 = true := by
  show PV.layL 58 (w.map stpP) = true
  rw [PV.layL_iff]
  intro y hy
  obtain ⟨s, hs, rfl⟩ := List.mem_map.mp hy
  cases s with
  | none => rfl
  | some pt =>
    obtain ⟨p, t⟩ := pt
    show PV.layL 57 [.int p, .str t] = true
    rw [PV.layL_iff]
    intro z hz
    rcases List.mem_cons.mp hz with rfl | hz
    · rfl
    · rw [List.mem_singleton.mp hz]
      exact lay_str (h p t hs)
theorem Bent.row {ls : List Nat} {p : Nat} {rs : List (List Stp)} {es : List (Option (List Nat))} {w : List Stp} (hp : p < rs.length) (h : (!decide (w.length = ls.length + 1) || w.any (badStp ls rs.length)) = true) (hl : w.length ≤ 1000) (ht : ∀ q t, some (q, t) ∈ w → t.length ≤ 1000 ∧ ∀ c ∈ t, c < 1114112) : Bent ls p rs (rs.set p w) es es := by
  refine ⟨by simp, rfl, ?_, fun q hq => ⟨List.getElem?_set_ne (Ne.symm hq), rfl⟩, fun b => ⟨b.fl, by rw [List.length_set]; exact b.r, b.e, fun r hr => ?_, fun r hr q t hq => ?_, b.u⟩, fun l => ?_⟩
  · unfold badAt
    rw [List.getElem?_set_self hp, List.length_set]
    show (_ || _) = true
    dsimp only
    rw [h]
    rfl
  · rcases List.mem_or_eq_of_mem_set hr with hr | rfl
    · exact b.w r hr
    · exact hl
  · rcases List.mem_or_eq_of_mem_set hr with hr | rfl
    · exact b.t r hr q t hq
    · exact (ht q t hq).1
  · have l' : PV.layL 59 (rs.map rowP) = true := l
    show PV.layL 59 ((rs.set p w).map rowP) = true
    rw [PV.layL_iff] at l' ⊢
    intro x hx
    obtain ⟨r, hr, rfl⟩ := List.mem_map.mp hx
    rcases List.mem_or_eq_of_mem_set hr with hr | rfl
    · exact l' _ (List.mem_map_of_mem hr)
    · exact lay_row fun q t hq => (ht q t hq).2
theorem Bent.fin {ls : List Nat} {p : Nat} {rs : List (List Stp)} {es : List (Option (List Nat))} {t : List Nat} (hp : p < es.length) (h : isW ls t = false) (hl : t.length ≤ 1000) : Bent ls p rs rs es (es.set p (some t)) := by
  refine ⟨rfl, by simp, ?_, fun q hq => ⟨rfl, List.getElem?_set_ne (Ne.symm hq)⟩, fun b => ⟨b.fl, b.r, by rw [List.length_set]; exact b.e, b.w, b.t, fun u hu => ?_⟩, fun l => l⟩
  · unfold badAt
    rw [List.getElem?_set_self hp]
    show (_ || badEnd ls (some t)) = true
    unfold badEnd
    dsimp only
    rw [h]
    simp
  · rcases List.mem_or_eq_of_mem_set hu with hu | hu
    · exact b.u u hu
    · cases hu; exact hl
theorem ref_l_is_integer (ds : List D) (M : Mem) (Q : DQ) (E : DX) (h : g_l_is_integer ds M Q E) : r_l_is_integer { nx := fun _ M' => qExit M Q (.v .non) M', rt := qExit M Q } (startD 1 ds) M := by
  obtain ⟨i, rfl, q⟩ := h
  show r_l_is_integer _ [some (vI i)] M
  unfold r_l_is_integer
  walk_at "dz"
  refine ⟨_, .t "int", true, rfl, rfl, by with_unfolding_all exact rfl, ?_⟩
  walk_at "dz"
  refine ⟨_, .t "int", false, rfl, rfl, by with_unfolding_all exact rfl, ?_⟩
  walk_at "dz"
  exact x_same q
theorem ref_l_told (ds : List D) (M : Mem) (Q : DQ) (E : DX) (h : g_l_told ds M Q E) : r_l_told { nx := fun _ M' => qExit M Q (.v .non) M', rt := qExit M Q } (startD 5 ds) M := by
  obtain ⟨ls, vw, f, d, e, rs, es, rfl, hd, he, hl, bnd, q⟩ := h
  show r_l_told _ [some (.v (alph ls vw)), some (vS f), some d, some e, none] M
  unfold r_l_told
  walk_at "dz"
  refine ⟨M.length, ls, vw, f, rs, es, d, e, rfl, List.getElem?_concat_length .., snap_app hd, snap_app he, hl, bnd, fun hc => mk_done (ps := [alph ls vw, .str f, rowsP rs, endsP es]) ?_, fun p hp => xe_app ?_⟩
  · rw [hc] at q
    walk_at "dz"
    exact x_same q
  · rw [hp] at q
    refine ⟨true, rfl, fun _ a => ?_, fun h => nomatch h⟩
    walk_at "dz"
    refine ⟨rfl, rfl, by decide, _, rfl, ?_⟩
    walk_at "dz"
    exact x_same q
theorem ref_l_kinds (ds : List D) (M : Mem) (Q : DQ) (E : DX) (h : g_l_kinds ds M Q E) : r_l_kinds { nx := fun _ M' => qExit M Q (.v .non) M', rt := qExit M Q } (startD 5 ds) M := by
  obtain ⟨ls, vw, f, d, e, rs, es, rfl, hd, he, hl, bnd, ⟨p, hp⟩, q⟩ := h
  show r_l_kinds _ [some (.v (alph ls vw)), some (vS f), some d, some e, none] M
  unfold r_l_kinds
  walk_at "dz"
  refine ⟨M.length, ls, vw, f, rs, es, d, e, rfl, List.getElem?_concat_length .., snap_app hd, snap_app he, hl, bnd, (fun hc => by rw [hp] at hc; cases hc), fun p' hp' => xe_app ?_⟩
  refine ⟨true, rfl, fun _ a => ?_, fun h => nomatch h⟩
  walk_at "dz"
  refine ⟨true, rfl, rfl, by simp, ?_⟩
  walk_at "dz"
  refine ⟨true, rfl, rfl, by simp, ?_⟩
  walk_at "dz"
  refine ⟨false, rfl, rfl, by simp, ?_⟩
  walk_at "dz"
  exact x_same q
theorem cutF {α : Type} (z : List α) (n : Nat) : cut z (some (n : Int)) none = z.drop (min n z.length) := by
  unfold cut
  rw [HT.sIx_nat, HT.sIx_none]
  refine List.take_of_length_le ?_
  rw [List.length_drop]
  omega
theorem if_ne {A : DS} {E : DEnds} {ds : DSt} {M : Mem} {i : Nat} {n m : Int} (e : ds[i]? = some (some (vI n))) (h : n ≠ m) (q : E.nx ds M) : dIfS (dTest (dOp uEq (dVar i) (dC (.int m)))) A dNext E ds M := by
  refine k_ifS (k_test (k_op (k_var e (k_c (k_eq (k := decide (n = m)) rfl (k_bl ?_))))))
  rw [decide_eq_false h, if_neg Bool.false_ne_true]
  exact k_next q
theorem if_eq {A : DS} {E : DEnds} {ds : DSt} {M : Mem} {i : Nat} {n m : Int} (e : ds[i]? = some (some (vI n))) (h : n = m) (q : A E ds M) : dIfS (dTest (dOp uEq (dVar i) (dC (.int m)))) A dNext E ds M := by
  refine k_ifS (k_test (k_op (k_var e (k_c (k_eq (k := decide (n = m)) rfl (k_bl ?_))))))
  rw [decide_eq_true h, if_pos rfl]
  exact q
theorem cut_ne {A rest : DS} {E : DEnds} {ds : DSt} {M : Mem} {i : Nat} {n m : Int} (e : ds[i]? = some (some (vI n))) (h : n ≠ m) (q : rest E ds M) : dCut (dIfS (dTest (dOp uEq (dVar i) (dC (.int m)))) A dNext) rest E ds M := k_nocut (if_ne e h q)
theorem cut_eq {A rest : DS} {E : DEnds} {ds : DSt} {M : Mem} {i : Nat} {n m : Int} (e : ds[i]? = some (some (vI n))) (h : n = m) (q : A { E with nx := rest E } ds M) : dCut (dIfS (dTest (dOp uEq (dVar i) (dC (.int m)))) A dNext) rest E ds M := k_nocut (if_eq e h q)
theorem cut_lt {A rest : DS} {E : DEnds} {ds : DSt} {M : Mem} {i : Nat} {n m : Int} (e : ds[i]? = some (some (vI n))) (h : n < m) (q : A { E with nx := rest E } ds M) : dCut (dIfS (dTest (dOp uLt (dVar i) (dC (.int m)))) A dNext) rest E ds M := by
  refine k_nocut (k_ifS (k_test (k_op (k_var e (k_c (k_lt (k_bl ?_)))))))
  rw [decide_eq_true h, if_pos rfl]
  exact q
theorem cut_ge {A rest : DS} {E : DEnds} {ds : DSt} {M : Mem} {i : Nat} {n m : Int} (e : ds[i]? = some (some (vI n))) (h : ¬ n < m) (q : rest E ds M) : dCut (dIfS (dTest (dOp uLt (dVar i) (dC (.int m)))) A dNext) rest E ds M := by
  refine k_nocut (k_ifS (k_test (k_op (k_var e (k_c (k_lt (k_bl ?_)))))))
  rw [decide_eq_false h, if_neg Bool.false_ne_true]
  exact k_next q
theorem ref_l_bend (ds : List D) (M : Mem) (Q : DQ) (E : DX) (h : g_l_bend ds M Q E) : r_l_bend { nx := fun _ M' => Q (.v .non) M', rt := Q } (startD 10 ds) M := by
  obtain ⟨b, r, e, p, ls, rs, es, rfl, tc, ol, hl, hp, hrs, hle, q⟩ := h
  show r_l_bend _ [some (.cell b), some (.cell r), some (.cell e), some (vS (45 :: ls)), some (vI p), none, none, none, none, none] M
  unfold r_l_bend
  walk_at "dz"
  refine c_take tc.bg (by decide) (by decide) fun way M1 hway d1 hb1 => ?_
  replace tc := tc.bd d1
  walk_at "dz"
  refine c_take tc.bg (by simp) (by rw [List.length_cons]; omega) fun a M2 ha d2 hb2 => ?_
  replace tc := tc.bd d2
  walk_at "dz"
  refine comp_mapS (fun _ => .tup [.int 0, .str [45]]) (by rw [List.length_cons]; omega) (fun c Q' hc hq => ?_) ?_
  · walk_at "dz"
    refine k_ixS (c := 45) (by walk_at "sz") (atI_nat (i := 0) rfl) ?_
    walk_at "dz"
    exact hq
  obtain ⟨W, hW⟩ : ∃ W : List Stp, W = (45 :: ls).map fun _ => some (0, [45]) := ⟨_, rfl⟩
  have eW : ((45 :: ls).map fun _ => PV.tup [.int 0, .str [45]]) = W.map stpP := by rw [hW, List.map_map]; rfl
  have lW : W.length = ls.length + 1 := by rw [hW]; simp
  have mW : ∀ q t, some (q, t) ∈ W → t = [45] := fun q t h => by
    rw [hW] at h
    obtain ⟨_, _, e⟩ := List.mem_map.mp h
    cases e; rfl
  rw [eW]
  walk_at "dz"
  refine k_lenLs (ls_cell tc.hr) ?_
  rw [List.length_map, List.length_map]
  have hpow : ∀ (M : Mem) (Q : DQ), Q (vI 1000000000000000) M → uPow (vI 10) (vI 15) M Q := fun M Q h => ⟨10, 15, rfl, rfl, ⟨by decide, by decide, by decide⟩, h⟩
  walk_at "dz"
  refine hpow _ _ ?_
  walk_at "dz"
  refine hpow _ _ ?_
  walk_at "dz"
  refine c_take tc.bg (by decide) (by decide) fun x M3 hx d3 hb3 => ?_
  replace tc := tc.bd d3
  walk_at "dz"
  refine c_take tc.bg (by decide) (by decide) fun s M4 hs d4 hb4 => ?_
  replace tc := tc.bd d4
  walk_at "dz"
  obtain ⟨g, hg, hbad⟩ : ∃ g : Int, atI [PV.int (rs.length : Nat), PV.int (-1), PV.int (1000000000000000 + (x : Int)), PV.int (-2)] (s : Int) = some (.int g) ∧ ¬ (0 ≤ g ∧ g < rs.length) := by
    rcases (show s = 0 ∨ s = 1 ∨ s = 2 ∨ s = 3 by omega) with rfl | rfl | rfl | rfl
    · exact ⟨_, rfl, by omega⟩
    · exact ⟨_, rfl, by omega⟩
    · exact ⟨_, rfl, by omega⟩
    · exact ⟨_, rfl, by omega⟩
  refine k_ixL hg ?_
  have ha' : a < ls.length + 1 := by rw [List.length_cons] at ha; omega
  have fr : ∀ (w : List Stp) (P : Mem → Prop), (∀ M', Q (.v .non) M' → P M') → (!decide (w.length = ls.length + 1) || w.any (badStp ls rs.length)) = true → w.length ≤ 1000 → (∀ q t, some (q, t) ∈ w → t.length ≤ 1000 ∧ ∀ c ∈ t, c < 1114112) → ∃ k es_1 n l, D.cell r = .cell k ∧ vI (p : Int) = vI n ∧ M4[k]? = some (some (.lst es_1)) ∧ ixN es_1.length n = some l ∧ P (M4.set k (some (.lst (es_1.set l (.v (rowP w)))))) := fun w P hP h1 h2 h3 => by
    refine k_subAt tc.hr (by rw [List.length_map, List.length_map]; exact hp) ?_
    rw [show ((rs.map rowP).map D.v).set p (.v (rowP w)) = ((rs.set p w).map rowP).map D.v by rw [List.map_set, List.map_set]]
    exact hP _ (q _ _ _ (Bent.row hp h1 h2 h3) tc.setr)
  have fe : ∀ (t : List Nat) (P : Mem → Prop), (∀ M', Q (.v .non) M' → P M') → isW ls t = false → t.length ≤ 1000 → ∃ k es_1 n l, D.cell e = .cell k ∧ vI (p : Int) = vI n ∧ M4[k]? = some (some (.lst es_1)) ∧ ixN es_1.length n = some l ∧ P (M4.set k (some (.lst (es_1.set l (.v (.str t)))))) := fun t P hP h1 h2 => by
    refine k_subAt tc.he (by rw [List.length_map, List.length_map, ← hle]; exact hp) ?_
    rw [show ((es.map endP).map D.v).set p (.v (.str t)) = ((es.set p (some t)).map endP).map D.v by rw [List.map_set, List.map_set]; rfl]
    exact hP _ (q _ _ _ (Bent.fin (by rw [← hle]; exact hp) h1 h2) tc.sete)
  have tW : ∀ q t, some (q, t) ∈ W → t.length ≤ 1000 ∧ ∀ c ∈ t, c < 1114112 := fun q t h => by
    rw [mW q t h]
    exact ⟨by decide, fun c hc => by rw [List.mem_singleton.mp hc]; decide⟩
  have no65 : (65 : Nat) ∉ 45 :: ls := fun h => by
    rcases List.mem_cons.mp h with h | h
    · cases h
    · have := ol.1 65 h; revert this; decide
  have no32 : (32 : Nat) ∉ 45 :: ls := fun h => by
    rcases List.mem_cons.mp h with h | h
    · cases h
    · have := ol.1 32 h; revert this; decide
  have no63 : (63 : Nat) ∉ 45 :: ls := fun h => by
    rcases List.mem_cons.mp h with h | h
    · cases h
    · have := ol.1 63 h; revert this; decide
  have nW : ∀ {c : Nat} {z : List Nat}, c ∉ 45 :: ls → c ∈ z → isW ls z = false := fun {c z} h1 h2 => by
    cases h : isW ls z with
    | false => rfl
    | true => exact absurd (isW_iff.mp h c h2) h1
  have mid : ∀ (g : Int) (t : List Nat) (P : Mem → Prop), (∀ M', Q (.v .non) M' → P M') → badStp ls rs.length (some (g, t)) = true → t.length ≤ 1000 → (∀ c ∈ t, c < 1114112) → ∃ k es_1 n l, D.cell r = .cell k ∧ vI (p : Int) = vI n ∧ M4[k]? = some (some (.lst es_1)) ∧ ixN es_1.length n = some l ∧ P (M4.set k (some (.lst (es_1.set l (vL (cut (W.map stpP) none (some (a : Int)) ++ [.tup [.int g, .str t]] ++ cut (W.map stpP) (some ((a : Int) + 1)) none)))))) := fun g t P hP h1 h2 h3 => by
    have e : cut (W.map stpP) none (some (a : Int)) ++ [.tup [.int g, .str t]] ++ cut (W.map stpP) (some ((a : Int) + 1)) none = (cut W none (some (a : Int)) ++ [some (g, t)] ++ cut W (some ((a : Int) + 1)) none).map stpP := by
      rw [cut_map, cut_map, List.map_append, List.map_append]
      rfl
    rw [e]
    have l1 := cut_len W none (some (a : Int))
    have l2 := cut_len W (some ((a : Int) + 1)) none
    refine fr _ P hP ?_ (by simp only [List.length_append, List.length_cons, List.length_nil]; omega) fun q u hu => ?_
    · rw [Bool.or_eq_true]
      exact Or.inr (List.any_eq_true.mpr ⟨some (g, t), by simp, h1⟩)
    · rcases List.mem_append.mp hu with hu | hu
      · rcases List.mem_append.mp hu with hu | hu
        · exact tW q u ((cut_sub W _ _).subset hu)
        · cases List.mem_singleton.mp hu
          exact ⟨h2, h3⟩
      · exact tW q u ((cut_sub W _ _).subset hu)
  have low : ∀ c ∈ 45 :: ls, c < 1114112 := fun c hc => okL_char ol hc
  have lWm : (W.map stpP).length = ls.length + 1 := by rw [List.length_map]; exact lW
  have lc1 := cut_len (W.map stpP) none (some (a : Int))
  have lc2 := cut_len (W.map stpP) (some ((a : Int) + 1)) none
  rcases (show way = 0 ∨ way = 1 ∨ way = 2 ∨ way = 3 ∨ way = 4 ∨ way = 5 by omega) with rfl | rfl | rfl | rfl | rfl | rfl
  · refine cut_eq (n := 0) rfl rfl ?_
    walk_at "dz"
    have e : cut (W.map stpP) (some 1) none = (W.drop 1).map stpP := by rw [cut_map, show (1 : Int) = ((1 : Nat) : Int) from rfl, cutF, lW, Nat.min_eq_left (by omega)]
    rw [e]
    refine fr (W.drop 1) _ (fun M' h => ?_) (by rw [List.length_drop, lW]; rw [decide_eq_false (by omega)]; rfl) (by rw [List.length_drop]; omega) (fun q t h => tW q t (List.mem_of_mem_drop h))
    exact (cut_ne (n := 0) rfl (by decide) (cut_ne (n := 0) rfl (by decide) (cut_ne (n := 0) rfl (by decide) (cut_ne (n := 0) rfl (by decide) (if_ne (n := 0) rfl (by decide) h)))))
  · refine cut_ne (n := 1) rfl (by decide) ?_
    refine cut_eq (n := 1) rfl rfl ?_
    walk_at "dz"
    refine k_addL (by rw [sizeLine_eq]; simp only [List.length_append, List.length_map, List.length_cons, List.length_nil]; omega) ?_
    walk_at "dz"
    rw [show W.map stpP ++ [PV.non] = (W ++ [none]).map stpP by rw [List.map_append]; rfl]
    refine fr (W ++ [none]) _ (fun M' h => ?_) (by rw [List.length_append, List.length_singleton, lW, decide_eq_false (by omega)]; rfl) (by rw [List.length_append, List.length_singleton]; omega) (fun q t h => by rcases List.mem_append.mp h with h | h; exact tW q t h; cases List.mem_singleton.mp h)
    exact (cut_ne (n := 1) rfl (by decide) (cut_ne (n := 1) rfl (by decide) (cut_ne (n := 1) rfl (by decide) (if_ne (n := 1) rfl (by decide) h))))
  · refine cut_ne (n := 2) rfl (by decide) ?_
    refine cut_ne (n := 2) rfl (by decide) ?_
    refine cut_eq (n := 2) rfl rfl ?_
    walk_at "dz"
    refine k_addL (by rw [sizeLine_eq]; simp only [List.length_append, List.length_cons, List.length_nil]; omega) ?_
    walk_at "dz"
    refine k_addL (by rw [sizeLine_eq]; simp only [List.length_append, List.length_cons, List.length_nil]; omega) ?_
    walk_at "dz"
    refine mid g [] _ (fun M' h => ?_) (by show (!(decide (0 ≤ g) && decide (g < (rs.length : Int)) && isW ls [])) = true; rw [Bool.not_eq_true']; rw [Bool.and_eq_false_iff, Bool.and_eq_false_iff]; by_cases h : 0 ≤ g; exact Or.inl (Or.inr (decide_eq_false (fun h2 => hbad ⟨h, h2⟩))); exact Or.inl (Or.inl (decide_eq_false h))) (by decide) (fun c h => nomatch h)
    exact (cut_ne (n := 2) rfl (by decide) (cut_ne (n := 2) rfl (by decide) (if_ne (n := 2) rfl (by decide) h)))
  · refine cut_ne (n := 3) rfl (by decide) ?_
    refine cut_ne (n := 3) rfl (by decide) ?_
    refine cut_ne (n := 3) rfl (by decide) ?_
    refine cut_eq (n := 3) rfl rfl ?_
    walk_at "dz"
    refine k_addL (by rw [sizeLine_eq]; simp only [List.length_append, List.length_cons, List.length_nil]; omega) ?_
    walk_at "dz"
    refine k_addL (by rw [sizeLine_eq]; simp only [List.length_append, List.length_cons, List.length_nil]; omega) ?_
    walk_at "dz"
    refine mid 0 (45 :: ls ++ [65]) _ (fun M' h => ?_) (by show (!(_ && isW ls (45 :: ls ++ [65]))) = true; rw [nW no65 (by simp)]; simp) (by simp; omega) (fun c h => by rcases List.mem_append.mp h with h | h; exact low c h; rw [List.mem_singleton.mp h]; decide)
    exact (cut_ne (n := 3) rfl (by decide) (if_ne (n := 3) rfl (by decide) h))
  · refine cut_ne (n := 4) rfl (by decide) ?_
    refine cut_ne (n := 4) rfl (by decide) ?_
    refine cut_ne (n := 4) rfl (by decide) ?_
    refine cut_ne (n := 4) rfl (by decide) ?_
    refine cut_eq (n := 4) rfl rfl ?_
    walk_at "dz"
    refine fe [32] _ (fun M' h => ?_) (nW no32 (by simp)) (by decide)
    exact (if_ne (n := 4) rfl (by decide) h)
  · refine cut_ne (n := 5) rfl (by decide) ?_
    refine cut_ne (n := 5) rfl (by decide) ?_
    refine cut_ne (n := 5) rfl (by decide) ?_
    refine cut_ne (n := 5) rfl (by decide) ?_
    refine cut_ne (n := 5) rfl (by decide) ?_
    refine if_eq (n := 5) rfl rfl ?_
    walk_at "dz"
    refine k_ixS (c := 45) (by walk_at "sz") (atI_nat (i := 0) rfl) ?_
    walk_at "dz"
    refine fe [45, 63] _ (fun M' h => ?_) (nW no63 (by simp)) (by decide)
    exact h
theorem chk_eq {ls f : List Nat} {rs : List (List Stp)} {es : List (Option (List Nat))} (h1 : rs ≠ []) (h2 : rs.length = es.length) (h3 : isW ls f = true) : chkM ls f rs es = ((List.range rs.length).find? (badAt ls rs es)).map fun (i : Nat) => (i : Int) := by
  unfold chkM
  rw [if_neg]
  rintro (h | h | h)
  · exact h1 h
  · exact h h2
  · rw [h3] at h; cases h
theorem chk_no {ls f : List Nat} {rs : List (List Stp)} {es : List (Option (List Nat))} (h : rs = [] ∨ rs.length ≠ es.length ∨ isW ls f = false) : chkM ls f rs es = some (-1) := by
  unfold chkM
  rw [if_pos h]
theorem chk_bent {ls f : List Nat} {p : Nat} {rs rs' : List (List Stp)} {es es' : List (Option (List Nat))} (h1 : rs ≠ []) (h2 : rs.length = es.length) (h3 : isW ls f = true) (hp : p < rs.length) (b : Bent ls p rs rs' es es') :
    (chkM ls f rs es = none ∧ chkM ls f rs' es' = some (p : Int)) ∨ ∃ d : Nat, chkM ls f rs es = some (d : Int) ∧ chkM ls f rs' es' = some ((min d p : Nat) : Int) := by
  have n1 : rs' ≠ [] := fun h => h1 (by rw [← List.length_eq_zero_iff, ← b.lr, h]; rfl)
  rw [chk_eq h1 h2 h3, chk_eq n1 (by rw [b.lr, b.le]; exact h2) h3, b.lr]
  have same : ∀ q, q ≠ p → badAt ls rs' es' q = badAt ls rs es q := fun q hq => by
    obtain ⟨e1, e2⟩ := b.same q hq
    unfold badAt
    rw [e1, e2, b.lr]
  cases h : (List.range rs.length).find? (badAt ls rs es) with
  | none =>
    refine Or.inl ⟨rfl, ?_⟩
    rw [show (List.range rs.length).find? (badAt ls rs' es') = some p from ?_]
    · rfl
    · rw [List.find?_range_eq_some]
      refine ⟨b.bad, List.mem_range.mpr hp, fun j hj => ?_⟩
      have := List.find?_eq_none.mp h j (List.mem_range.mpr (by omega))
      rw [same j (by omega)]
      simpa using this
  | some d =>
    refine Or.inr ⟨d, rfl, ?_⟩
    rw [List.find?_range_eq_some] at h
    obtain ⟨g1, g2, g3⟩ := h
    rw [List.mem_range] at g2
    rw [show (List.range rs.length).find? (badAt ls rs' es') = some (min d p) from ?_]
    · rfl
    · rw [List.find?_range_eq_some]
      refine ⟨?_, List.mem_range.mpr (by omega), fun j hj => ?_⟩
      · by_cases hd : d < p
        · rw [Nat.min_eq_left (by omega), same d (by omega)]; exact g1
        · rw [Nat.min_eq_right (by omega)]; exact b.bad
      · rw [same j (by omega)]
        exact g3 j (by omega)
def rest_law : DS := dSeq (dAsg (dLcG (jLs (dVar 6)) (hName 13) dYes (dCB uList (dCons (dVar 13) dNil)) [13]) (hName 12)) (dSeq (dAsg (dCall g_l_told noX (dCons (dVar 3) (dCons (dVar 5) (dCons (dVar 6) (dCons (dVar 7) dNil))))) (hName 14)) (dSeq (dIfS (dOr (dTest (dOp uNe (dVar 14) (dVar 8))) (dAnd (dTest (dOp uIsNot (dVar 14) (dC .non))) (dNot (dTru (dCall g_l_is_integer noX (dCons (dVar 14) dNil)))))) (dRet (dC (.bl false))) dNext) (dSeq (dIfS (dAnd (dTest (dOp uIsNot (dVar 8) (dC .non))) (dNot (dTru (dCall g_l_kinds noX (dCons (dVar 3) (dCons (dVar 5) (dCons (dVar 6) (dCons (dVar 7) dNil)))))))) (dRet (dC (.bl false))) dNext) (dRet (dAndV (dOp uEq (dCall g_l_told noX (dCons (dVar 3) (dCons (dC (.str [])) (dCons (dLst dNil) (dCons (dLst dNil) dNil))))) (dUn uNeg (dC (.int 1)))) (dOp uEqD (dVar 6) (dVar 12)))))))
theorem ref_law (ds : List D) (M : Mem) (Q : DQ) (E : DX) (h : g_law ds M Q E) : r_law { nx := fun _ M' => Q (.v .non) M', rt := Q } (startD 15 ds) M := by
  obtain ⟨ns, rfl, _, q⟩ := h
  show r_law _ [some (.v (.scr ns)), none, none, none, none, none, none, none, none, none, none, none, none, none, none] M
  unfold r_law
  walk_at "dz"
  refine c_bag fun c0 hc0 hb0 => ?_
  walk_at "dz"
  refine c_letters 3 hb0 (by decide) (by decide) fun ls M1 ol asc l5 d1 hb1 => ?_
  walk_at "dz"
  refine c_vowels hb1 (by omega) fun vw M2 sub d2 hb2 => ?_
  walk_at "dz"
  refine c_alph ol asc sub ?_
  walk_at "dz"
  refine ⟨M.length, ls, 4, rfl, hb2, by omega, by decide, by decide, fun f rs0 es0 M3 t r e ok hrl tc ht => ?_⟩
  walk_at "dz"
  refine k_ixP ht (atI_nat (i := 0) rfl) ?_
  walk_at "dz"
  refine k_ixP ht (atI_nat (i := 1) rfl) ?_
  walk_at "dz"
  refine k_ixP ht (atI_nat (i := 2) rfl) ?_
  walk_at "dz"
  have bnd0 := ok.bnd (by decide) (by omega) (by omega)
  refine ⟨ls, vw, f, _, _, rs0, es0, rfl, snap_vl tc.hr, snap_vl tc.he, by omega, bnd0, ?_⟩
  rw [ok.chk, show optP none = PV.non from rfl]
  walk_at "dz"
  refine c_take tc.bg (by decide) (by decide) fun many M4 hmany d4 hb4 => ?_
  walk_at "dz"
  refine ⟨_, rfl, by omega, by omega, ?_⟩
  rw [Int.toNat_natCast]
  have tc4 := tc.bd d4
  have hf2 := ok.fl
  have fw := ok.fw
  refine loop_inv (fun k ds M' => ∃ rs es v9 v10, TabC M' M.length r e rs es ∧ rs.length = es.length ∧ rs ≠ [] ∧ rs.length ≤ 4 ∧ TabB f rs es ∧ (rowsP rs).lay 60 = true ∧ ds = [some (.v (.scr ns)), some (.cell M.length), some (vS ls), some (.v (alph ls vw)), some (.cell t), some (vS f), some (.cell r), some (.cell e), some (.v (optP (chkM ls f rs es))), v9, v10, none, none, none, none]) ⟨rs0, es0, _, _, tc4, ok.le, ok.ne, hrl, bnd0, (ok.asc ol).1, by rw [ok.chk]; rfl⟩ ?_ ?_
  · rintro k x ds M5 N hx ⟨rs, es, v9, v10, tc, hle, hne, hrl, bnd, lay, rfl⟩ hN
    have hpos : 0 < rs.length := List.length_pos_iff.mpr hne
    walk_at "dz"
    refine k_lenLs (ls_cell tc.hr) ?_
    rw [List.length_map, List.length_map]
    walk_at "dz"
    refine c_take tc.bg (by omega) (by omega) fun p M6 hp d6 hb6 => ?_
    replace tc := tc.bd d6
    have hp' : p < rs.length := by omega
    walk_at "dz"
    refine ⟨M.length, r, e, p, ls, rs, es, rfl, tc, ol, by omega, hp', by omega, hle, fun M7 rs' es' bent tc' => ?_⟩
    walk_at "dz"
    have hne' : rs' ≠ [] := fun h => hne (by rw [← List.length_eq_zero_iff, ← bent.lr, h]; rfl)
    rcases chk_bent hne hle fw hp' bent with ⟨e1, e2⟩ | ⟨d, e1, e2⟩
    · rw [e1, show optP none = PV.non from rfl]
      walk_at "dz"
      exact hN _ _ ⟨rs', es', _, _, tc', by rw [bent.lr, bent.le]; exact hle, hne', by rw [bent.lr]; exact hrl, bent.bnd bnd, bent.lay lay, by rw [e2]; rfl⟩
    · rw [e1, show optP (some (d : Int)) = PV.int d from rfl]
      walk_at "dz"
      refine ⟨d, p, rfl, ?_⟩
      walk_at "dz"
      have em : (if (p : Int) < d then (p : Int) else d) = ((min d p : Nat) : Int) := by split <;> omega
      rw [em]
      exact hN _ _ ⟨rs', es', some x, some (vI p), tc', by rw [bent.lr, bent.le]; exact hle, hne', by rw [bent.lr]; exact hrl, bent.bnd bnd, bent.lay lay, by rw [e2]; rfl⟩
  rintro _ M5 ⟨rs, es, v9, v10, tc, hle, hne, hrl, bnd, lay, rfl⟩
  walk_at "dz"
  refine c_take tc.bg (by decide) (by decide) fun way M6 hway d6 hb6 => ?_
  replace tc := tc.bd d6
  walk_at "dz"
  have fin : ∀ (d6 d7 : D) (f' : List Nat) (rs' : List (List Stp)) (es' : List (Option (List Nat))) (dv : PV) (M' : Mem) (v9 v10 v11 : Option D), dv = optP (chkM ls f' rs' es') → lsOf M' d6 = some ((rs'.map rowP).map D.v) → snap M' 2 d6 = some (rowsP rs') → snap M' 1 d7 = some (endsP es') → TabB f' rs' es' → (rowsP rs').lay 60 = true →
      rest_law { nx := fun _ M' => Q (.v .non) M', rt := Q } [some (.v (.scr ns)), some (.cell M.length), some (vS ls), some (.v (alph ls vw)), some (.cell t), some (vS f'), some d6, some d7, some (.v dv), v9, v10, v11, none, none, none] M' := by
    rintro d6 d7 f' rs' es' _ M' v9 v10 v11 rfl l6 s6 s7 bnd lay
    unfold rest_law
    walk_at "dz"
    refine ⟨_, l6, ?_⟩
    rw [List.map_map]
    refine compG_mapA (D.v ∘ rowP) rs' rowP ?_ (by have := bnd.r; rw [sizeLine_eq]; omega) (by rw [List.map_map] at l6; exact l6) (fun w hw Q' hq => ?_) ?_
    · show 13 < 15
      decide
    · rw [show (D.v ∘ rowP) w = vL (w.map stpP) from rfl]
      walk_at "dz"
      exact hq
    walk_at "dz"
    refine ⟨ls, vw, f', d6, d7, rs', es', rfl, s6, s7, by omega, bnd, ?_⟩
    walk_at "dz"
    have b0 : TabB [] [] [] := ⟨by decide, by decide, by decide, (fun _ h => nomatch h), (fun _ h => nomatch h), (fun _ h => nomatch h)⟩
    cases hD : chkM ls f' rs' es' with
    | none =>
      rw [show optP none = PV.non from rfl]
      walk_at "dz"
      refine ⟨ls, vw, [], vL [], vL [], [], [], rfl, snap_v _ _ _, snap_v _ _ _, by omega, b0, ?_⟩
      rw [chk_no (Or.inl rfl), show optP (some (-1)) = PV.int (-1) from rfl]
      walk_at "dz"
      refine ⟨2, _, _, s6, snap_v _ _ _, lay, lay, ?_⟩
      rw [eqv_rows lay, decide_eq_true rfl]
      walk_at "dz"
      exact q _
    | some p =>
      rw [show optP (some p) = PV.int p from rfl]
      walk_at "dz"
      refine ⟨p, rfl, ?_⟩
      walk_at "dz"
      refine ⟨ls, vw, f', d6, d7, rs', es', rfl, s6, s7, by omega, bnd, ⟨p, hD⟩, ?_⟩
      walk_at "dz"
      refine ⟨ls, vw, [], vL [], vL [], [], [], rfl, snap_v _ _ _, snap_v _ _ _, by omega, b0, ?_⟩
      rw [chk_no (Or.inl rfl), show optP (some (-1)) = PV.int (-1) from rfl]
      walk_at "dz"
      refine ⟨2, _, _, s6, snap_v _ _ _, lay, lay, ?_⟩
      rw [eqv_rows lay, decide_eq_true rfl]
      walk_at "dz"
      exact q _
  have lr : ∀ M' : Mem, M'[r]? = some (some (Cell.lst ((rs.map rowP).map D.v))) → lsOf M' (.cell r) = some ((rs.map rowP).map D.v) := fun M' h => ls_cell h
  rcases (show way = 0 ∨ way = 1 ∨ way = 2 ∨ way = 3 ∨ 4 ≤ way by omega) with rfl | rfl | rfl | rfl | hw
  · refine cut_eq (n := 0) rfl rfl ?_
    walk_at "dz"
    refine Or.inr (Or.inr (Or.inr ⟨e, _, _, rfl, tc.he, pures_map _, ?_⟩))
    walk_at "dz"
    refine cut_ne (n := 0) rfl (by decide) (cut_ne (n := 0) rfl (by decide) (cut_ne (n := 0) rfl (by decide) (cut_lt (n := 0) rfl (by decide) (k_asg (k_un (k_c (k_neg (k_name ?_))))))))
    rw [cut_map, show (1 : Int) = ((1 : Nat) : Int) from rfl, cutF]
    refine fin (.cell r) (vL ((es.drop (min 1 es.length)).map endP)) f rs (es.drop (min 1 es.length)) _ _ _ _ _ ?_ (lr _ tc.hr) (snap_vl tc.hr) (snap_v _ _ _) ⟨bnd.fl, bnd.r, by rw [List.length_drop]; have := bnd.e; omega, bnd.w, bnd.t, fun t h => bnd.u t (List.mem_of_mem_drop h)⟩ lay
    rw [chk_no (Or.inr (Or.inl (by rw [List.length_drop]; have := List.length_pos_iff.mpr hne; omega)))]
    rfl
  · refine cut_ne (n := 1) rfl (by decide) (cut_eq (n := 1) rfl rfl ?_)
    walk_at "dz"
    refine ⟨⟨_, ls_cell tc.he⟩, ?_⟩
    walk_at "dz"
    refine k_appAt tc.he (by rw [List.length_map, List.length_map, sizeLine_eq]; omega) ?_
    refine cut_ne (n := 1) rfl (by decide) (cut_ne (n := 1) rfl (by decide) (cut_lt (n := 1) rfl (by decide) (k_asg (k_un (k_c (k_neg (k_name ?_)))))))
    rw [show (es.map endP).map D.v ++ [D.v (PV.str [])] = ((es ++ [some []]).map endP).map D.v by rw [List.map_append, List.map_append]; rfl]
    have tc' : TabC _ M.length r e rs (es ++ [some []]) := tc.sete
    refine fin (.cell r) (.cell e) f rs (es ++ [some []]) _ _ _ _ _ ?_ (lr _ tc'.hr) (snap_vl tc'.hr) (snap_vl tc'.he) ⟨bnd.fl, bnd.r, by rw [List.length_append, List.length_singleton]; omega, bnd.w, bnd.t, fun t h => by rcases List.mem_append.mp h with h | h; exact bnd.u t h; cases List.mem_singleton.mp h; decide⟩ lay
    rw [chk_no (Or.inr (Or.inl (by rw [List.length_append, List.length_singleton]; omega)))]
    rfl
  · refine cut_ne (n := 2) rfl (by decide) (cut_ne (n := 2) rfl (by decide) (cut_eq (n := 2) rfl rfl ?_))
    walk_at "dz"
    refine cut_ne (n := 2) rfl (by decide) (cut_lt (n := 2) rfl (by decide) (k_asg (k_un (k_c (k_neg (k_name ?_))))))
    refine fin (.cell r) (.cell e) (f ++ [65]) rs es _ _ _ _ _ ?_ (lr _ tc.hr) (snap_vl tc.hr) (snap_vl tc.he) ⟨by rw [List.length_append, List.length_singleton]; omega, bnd.r, bnd.e, bnd.w, bnd.t, bnd.u⟩ lay
    rw [chk_no (Or.inr (Or.inr ?_))]
    · rfl
    · cases h : isW ls (f ++ [65]) with
      | false => rfl
      | true =>
        rcases List.mem_cons.mp (isW_iff.mp h 65 (by simp)) with h | h
        · cases h
        · have := ol.1 65 h; revert this; decide
  · refine cut_ne (n := 3) rfl (by decide) (cut_ne (n := 3) rfl (by decide) (cut_ne (n := 3) rfl (by decide) (cut_eq (n := 3) rfl rfl ?_)))
    walk_at "dz"
    refine cut_lt (n := 3) rfl (by decide) (k_asg (k_un (k_c (k_neg (k_name ?_)))))
    refine fin (vL []) (.cell e) f [] es _ _ _ _ _ ?_ rfl (snap_v _ _ _) (snap_vl tc.he) ⟨bnd.fl, by decide, bnd.e, (fun _ h => nomatch h), (fun _ h => nomatch h), bnd.u⟩ rfl
    rw [chk_no (Or.inl rfl)]
    rfl
  · refine cut_ne (n := way) rfl (by omega) (cut_ne (n := way) rfl (by omega) (cut_ne (n := way) rfl (by omega) (cut_ne (n := way) rfl (by omega) (cut_ge (n := way) rfl (by omega) ?_))))
    exact fin (.cell r) (.cell e) f rs es _ _ _ _ _ rfl (lr _ tc.hr) (snap_vl tc.hr) (snap_vl tc.he) bnd lay
end Cl.Kl
namespace Cl.Kl
open PySem PySem.Spec PyProof.Rows L2 He ClX
section
variable {P : Program} {w : World} {K : PySem.W.Frag} {mg : Str → Option Value}
theorem csok (T : Facts K mg) : CsOk K cs_ := by
  refine ⟨fun c h => ?_, fun c h f hf => ?_⟩
  · simp only [cs_, List.mem_cons, List.not_mem_nil, or_false] at h
    rcases h with rfl | rfl
    · exact T.c_Alphabet
    · exact T.c_Machine
  · simp only [cs_, List.mem_cons, List.not_mem_nil, or_false] at h
    rcases h with rfl | rfl
    · simp only [Cn.flds, List.mem_cons, List.not_mem_nil, or_false] at hf
      rcases hf with rfl | rfl | rfl | rfl
      · exact T.no_Alphabet_letters
      · exact T.no_Alphabet_vowels
      · exact T.no_Alphabet_consonants
      · exact T.no_Alphabet_signs
    · simp only [Cn.flds, List.mem_cons, List.not_mem_nil, or_false] at hf
      rcases hf with rfl | rfl | rfl | rfl
      · exact T.no_Machine_alphabet
      · exact T.no_Machine_first
      · exact T.no_Machine_rows
      · exact T.no_Machine_ends
theorem si_bool (T : Facts K mg) {c0 : CS} {M0 : Mem} : SimR ⟨K, cs_, c0, M0⟩ (zIsi K) (uIsi tb_bool (.ty "bool")) :=
  sr_isi (fun _ => rfl) (fun _ _ h => h) (.ty _) (csok T) (fun k hk h => by simp only [cs_, List.mem_cons, List.not_mem_nil, or_false] at hk; rcases hk with rfl | rfl <;> first | exact T.ic_Alphabet| exact T.ic_Machine | exact absurd h (by decide)) (fun k b hk h => by cases k with | c n => cases h | t n => (by_cases e : n = "int"; (subst e; cases (show some false = some b from h); exact T.kt_int_bool); (exact absurd h (by show ¬ ((if n = "int" then some false else none) = some b); rw [if_neg e]; simp))))
theorem si_int (T : Facts K mg) {c0 : CS} {M0 : Mem} : SimR ⟨K, cs_, c0, M0⟩ (zIsi K) (uIsi tb_int (.ty "int")) :=
  sr_isi (fun _ => rfl) (fun _ _ h => h) (.ty _) (csok T) (fun k hk h => by simp only [cs_, List.mem_cons, List.not_mem_nil, or_false] at hk; rcases hk with rfl | rfl <;> first | exact T.ic_Alphabet| exact T.ic_Machine | exact absurd h (by decide)) (fun k b hk h => by cases k with | c n => cases h | t n => (by_cases e : n = "int"; (subst e; cases (show some true = some b from h); exact T.kt_int_int); (exact absurd h (by show ¬ ((if n = "int" then some true else none) = some b); rw [if_neg e]; simp))))
theorem sx_BadWord (T : Facts K mg) {c1 : CS} {M1 : Mem} {a : Addr} {cls : Value} {d : Option Addr} {e : DErr} (rx : RpX K cs_ c1 e cls d) : SimR ⟨K, cs_, c1, M1⟩ (rIsW K a cls d) (uIsX a e tx_BadWord (.cls .BadWord)) :=
  sr_isX (Same.refl _) rx (fun _ _ h => h) (.own _) (fun k h => by cases k <;> first | (cases h; done) | exact T.x_BadTable) (fun k b h => by cases k <;> first | (cases h; done) | (cases h; first | exact T.kt_BadTable_BadWord))
theorem sx_BadTable (T : Facts K mg) {c1 : CS} {M1 : Mem} {a : Addr} {cls : Value} {d : Option Addr} {e : DErr} (rx : RpX K cs_ c1 e cls d) : SimR ⟨K, cs_, c1, M1⟩ (rIsW K a cls d) (uIsX a e tx_BadTable (.cls .BadTable)) :=
  sr_isX (Same.refl _) rx (fun _ _ h => h) (.own _) (fun k h => by cases k <;> first | (cases h; done) | exact T.x_BadTable) (fun k b h => by cases k <;> first | (cases h; done) | (cases h; first | exact T.kt_BadTable_BadTable))
theorem sx_ValueError (T : Facts K mg) {c1 : CS} {M1 : Mem} {a : Addr} {cls : Value} {d : Option Addr} {e : DErr} (rx : RpX K cs_ c1 e cls d) : SimR ⟨K, cs_, c1, M1⟩ (rIsW K a cls d) (uIsX a e tx_ValueError (.ty "ValueError")) :=
  sr_isX (Same.refl _) rx (fun _ _ h => h) (.ty _) (fun k h => by cases k <;> first | (cases h; done) | exact T.x_BadTable) (fun k b h => by cases k <;> first | (cases h; done) | (cases h; first | exact T.kt_BadTable_ValueError))
theorem sim_all_different (T : Facts K mg) (c0 : CS) (M0 : Mem) : SimS ⟨K, cs_, c0, M0⟩ (t_all_different P w K) (r_all_different) :=
  sim_ret (sim_op so_eq (sim_lenSet (sim_cons sim_var sim_nil)) (sim_cb sr_len (sim_cons sim_var sim_nil)))
theorem pure_all_different (T : Facts K mg) (vs : List V) (H : Hp) (Q : VK) (E : XK) (h : sp_all_different K vs H Q E) : t_all_different P w K { nx := fun _ H' => Q .non H', rt := Q } (L2.start N_all_different vs) H :=
  pure_cut (N := N_all_different) (t := fun _ => t_all_different P w K) (d := fun _ => r_all_different) (fun S E Ed hK hc px => by obtain ⟨K, cs, c0, M0⟩ := S; cases hK; cases hc; exact sim_all_different T c0 M0) ref_all_different vs H Q E h
theorem len_all_different (vs : List V) (H : Hp) (Q : VK) (E : XK) (h : sp_all_different K vs H Q E) : vs.length = 1 := spD_len len_g_all_different vs H Q E h
theorem sim_Alphabet_init (T : Facts K mg) (c0 : CS) (M0 : Mem) {E : XK} {Ed : DX} (px : PoX ⟨K, cs_, c0, M0⟩ c0 M0 Ed E) : SimS ⟨K, cs_, c0, M0⟩ (t_Alphabet_init P w K E) (r_Alphabet_init Ed) :=
  sim_seq (sim_asg (sim_lc (gown_name 4) (sim_istr sim_var) sim_gname (sim_test (sim_op so_notin sim_var (sim_c fun _ => rfl))) sim_var) sim_gname) (sim_seq (sim_ifS (sim_or (sim_tru sim_var) (sim_or (sim_not (sim_test (sim_chain so_le so_le (sim_c fun _ => rfl) (sim_cb sr_len (sim_cons sim_var sim_nil)) (sim_cval (k := .Alphabet) T.cr_Alphabet T.cv_Alphabet_MOST fun _ => rfl)))) (sim_not (sim_tru (sim_call po_no (sim_cons sim_var sim_nil)))))) (sim_raise1 (k := .BadAlphabet) rfl px (sim_cons (sim_c fun _ => rfl) sim_nil)) sim_next) (sim_seq (sim_ifS (sim_or (sim_tru (sim_lc (gown_name 4) (sim_istr sim_var) sim_gname (sim_test (sim_op so_notin sim_var sim_var)) sim_var)) (sim_not (sim_tru (sim_call po_no (sim_cons sim_var sim_nil))))) (sim_raise1 (k := .BadAlphabet) rfl px (sim_cons (sim_c fun _ => rfl) sim_nil)) sim_next) (sim_seq (sim_stf (f := .letters) (csok T) sim_var (sim_bmS sm_join (sim_c fun _ => rfl) (sim_cons (sim_cb sr_srt (sim_cons sim_var sim_nil)) sim_nil))) (sim_seq (sim_stf (f := .vowels) (csok T) sim_var (sim_bmS sm_join (sim_c fun _ => rfl) (sim_cons (sim_cb sr_srt (sim_cons sim_var sim_nil)) sim_nil))) (sim_seq (sim_stf (f := .consonants) (csok T) sim_var (sim_bmS sm_join (sim_c fun _ => rfl) (sim_cons (sim_lc (gown_name 4) (sim_ilst (sim_cb sr_srt (sim_cons sim_var sim_nil))) sim_gname (sim_test (sim_op so_notin sim_var sim_var)) sim_var) sim_nil))) (sim_stf (f := .signs) (csok T) sim_var (sim_op so_add (sim_cval (k := .Alphabet) T.cr_Alphabet T.cv_Alphabet_JOINT fun _ => rfl) (sim_fld (f := .letters) (csok T) sim_var))))))))
theorem pure_Alphabet_init (T : Facts K mg) (vs : List V) (H : Hp) (Q : VK) (E : XK) (h : sp_Alphabet_init K vs H Q E) : t_Alphabet_init P w K E { nx := fun _ H' => Q .non H', rt := Q } (L2.start N_Alphabet_init vs) H :=
  pure_keep (N := N_Alphabet_init) (t := fun E => t_Alphabet_init P w K E) (d := fun E => r_Alphabet_init E) (fun S E Ed hK hc px => by obtain ⟨K, cs, c0, M0⟩ := S; cases hK; cases hc; exact sim_Alphabet_init T c0 M0 px) ref_Alphabet_init vs H Q E h
theorem len_Alphabet_init (vs : List V) (H : Hp) (Q : VK) (E : XK) (h : sp_Alphabet_init K vs H Q E) : vs.length = 3 := spD_len len_g_Alphabet_init vs H Q E h
theorem sim_Alphabet_is_word (T : Facts K mg) (c0 : CS) (M0 : Mem) : SimS ⟨K, cs_, c0, M0⟩ (t_Alphabet_is_word P w K) (r_Alphabet_is_word) :=
  sim_seq (sim_for (sim_istr sim_var) sim_gname (sim_ifS (sim_test (sim_op so_notin sim_var (sim_fld (f := .signs) (csok T) sim_var))) (sim_ret (sim_c fun _ => rfl)) sim_next)) (sim_ret (sim_c fun _ => rfl))
theorem pure_Alphabet_is_word (T : Facts K mg) (vs : List V) (H : Hp) (Q : VK) (E : XK) (h : sp_Alphabet_is_word K vs H Q E) : t_Alphabet_is_word P w K { nx := fun _ H' => Q .non H', rt := Q } (L2.start N_Alphabet_is_word vs) H :=
  pure_cut (N := N_Alphabet_is_word) (t := fun _ => t_Alphabet_is_word P w K) (d := fun _ => r_Alphabet_is_word) (fun S E Ed hK hc px => by obtain ⟨K, cs, c0, M0⟩ := S; cases hK; cases hc; exact sim_Alphabet_is_word T c0 M0) ref_Alphabet_is_word vs H Q E h
theorem len_Alphabet_is_word (vs : List V) (H : Hp) (Q : VK) (E : XK) (h : sp_Alphabet_is_word K vs H Q E) : vs.length = 2 := spD_len len_g_Alphabet_is_word vs H Q E h
theorem sim_check_machine (T : Facts K mg) (c0 : CS) (M0 : Mem) {E : XK} {Ed : DX} (px : PoX ⟨K, cs_, c0, M0⟩ c0 M0 Ed E) : SimS ⟨K, cs_, c0, M0⟩ (t_check_machine P w K E) (r_check_machine Ed) :=
  sim_seq (sim_ifS (sim_or (sim_not (sim_tru sim_var)) (sim_or (sim_test (sim_op so_ne (sim_cb sr_len (sim_cons sim_var sim_nil)) (sim_cb sr_len (sim_cons sim_var sim_nil)))) (sim_not (sim_tru (sim_meth (fun _ => rfl) po_no gn_is_word sim_var (sim_cons sim_var sim_nil)))))) (sim_raise1 (k := .BadTable) rfl px (sim_cons (sim_un su_neg (sim_c fun _ => rfl)) sim_nil)) sim_next) (sim_for (sim_irng1 (sim_cons (sim_cb sr_len (sim_cons sim_var sim_nil)) sim_nil)) sim_gname (sim_seq (sim_ifS (sim_test (sim_op so_ne (sim_cb sr_len (sim_cons (sim_op so_ix sim_var sim_var) sim_nil)) (sim_cb sr_len (sim_cons (sim_fld (f := .signs) (csok T) sim_var) sim_nil)))) (sim_raise1 (k := .BadTable) rfl px (sim_cons sim_var sim_nil)) sim_next) (sim_seq (sim_forG (sim_jls (sim_op so_ix sim_var sim_var)) sim_gname (sim_ifS (sim_and (sim_test (sim_op so_isnot sim_var (sim_c fun _ => rfl))) (sim_not (sim_and (sim_test (sim_chain so_le so_lt (sim_c fun _ => rfl) (sim_op so_ix sim_var (sim_c fun _ => rfl)) (sim_cb sr_len (sim_cons sim_var sim_nil)))) (sim_tru (sim_meth (fun _ => rfl) po_no gn_is_word sim_var (sim_cons (sim_op so_ix sim_var (sim_c fun _ => rfl)) sim_nil)))))) (sim_raise1 (k := .BadTable) rfl px (sim_cons sim_var sim_nil)) sim_next)) (sim_ifS (sim_and (sim_test (sim_op so_isnot (sim_op so_ix sim_var sim_var) (sim_c fun _ => rfl))) (sim_not (sim_tru (sim_meth (fun _ => rfl) po_no gn_is_word sim_var (sim_cons (sim_op so_ix sim_var sim_var) sim_nil))))) (sim_raise1 (k := .BadTable) rfl px (sim_cons sim_var sim_nil)) sim_next))))
theorem pure_check_machine (T : Facts K mg) (vs : List V) (H : Hp) (Q : VK) (E : XK) (h : sp_check_machine K vs H Q E) : t_check_machine P w K E { nx := fun _ H' => Q .non H', rt := Q } (L2.start N_check_machine vs) H :=
  pure_cut (N := N_check_machine) (t := fun E => t_check_machine P w K E) (d := fun E => r_check_machine E) (fun S E Ed hK hc px => by obtain ⟨K, cs, c0, M0⟩ := S; cases hK; cases hc; exact sim_check_machine T c0 M0 px) ref_check_machine vs H Q E h
theorem len_check_machine (vs : List V) (H : Hp) (Q : VK) (E : XK) (h : sp_check_machine K vs H Q E) : vs.length = 4 := spD_len len_g_check_machine vs H Q E h
theorem sim_Machine_init (T : Facts K mg) (c0 : CS) (M0 : Mem) {E : XK} {Ed : DX} (px : PoX ⟨K, cs_, c0, M0⟩ c0 M0 Ed E) : SimS ⟨K, cs_, c0, M0⟩ (t_Machine_init P w K E) (r_Machine_init Ed) :=
  sim_seq (sim_drop (sim_call px (sim_cons sim_var (sim_cons sim_var (sim_cons sim_var (sim_cons sim_var sim_nil)))))) (sim_seq (sim_stf (f := .alphabet) (csok T) sim_var sim_var) (sim_seq (sim_stf (f := .first) (csok T) sim_var sim_var) (sim_seq (sim_stf (f := .rows) (csok T) sim_var (sim_lcG (gown_name 5) (sim_jls sim_var) sim_gname sim_yes (sim_cb sr_list (sim_cons sim_var sim_nil)))) (sim_stf (f := .ends) (csok T) sim_var (sim_cb sr_list (sim_cons sim_var sim_nil))))))
theorem pure_Machine_init (T : Facts K mg) (vs : List V) (H : Hp) (Q : VK) (E : XK) (h : sp_Machine_init K vs H Q E) : t_Machine_init P w K E { nx := fun _ H' => Q .non H', rt := Q } (L2.start N_Machine_init vs) H :=
  pure_keep (N := N_Machine_init) (t := fun E => t_Machine_init P w K E) (d := fun E => r_Machine_init E) (fun S E Ed hK hc px => by obtain ⟨K, cs, c0, M0⟩ := S; cases hK; cases hc; exact sim_Machine_init T c0 M0 px) ref_Machine_init vs H Q E h
theorem len_Machine_init (vs : List V) (H : Hp) (Q : VK) (E : XK) (h : sp_Machine_init K vs H Q E) : vs.length = 5 := spD_len len_g_Machine_init vs H Q E h
theorem sim_l_bag (T : Facts K mg) (c0 : CS) (M0 : Mem) : SimS ⟨K, cs_, c0, M0⟩ (t_l_bag P w K) (r_l_bag) :=
  sim_ret (sim_lstC (sim_cons (sim_cb sr_list (sim_cons (sim_sl sl_sl sim_var sim_nopart (sim_part (sim_c fun _ => rfl))) sim_nil)) (sim_cons (sim_c fun _ => rfl) (sim_cons (sim_c fun _ => rfl) (sim_cons (sim_c fun _ => rfl) sim_nil)))))
theorem pure_l_bag (T : Facts K mg) (vs : List V) (H : Hp) (Q : VK) (E : XK) (h : sp_l_bag K vs H Q E) : t_l_bag P w K { nx := fun _ H' => Q .non H', rt := Q } (L2.start N_l_bag vs) H :=
  pure_keep (N := N_l_bag) (t := fun _ => t_l_bag P w K) (d := fun _ => r_l_bag) (fun S E Ed hK hc px => by obtain ⟨K, cs, c0, M0⟩ := S; cases hK; cases hc; exact sim_l_bag T c0 M0) ref_l_bag vs H Q E h
theorem len_l_bag (vs : List V) (H : Hp) (Q : VK) (E : XK) (h : sp_l_bag K vs H Q E) : vs.length = 1 := spD_len len_g_l_bag vs H Q E h
theorem sim_l_take (T : Facts K mg) (c0 : CS) (M0 : Mem) : SimS ⟨K, cs_, c0, M0⟩ (t_l_take P w K) (r_l_take) :=
  sim_seq (sim_ifS (sim_test (sim_op so_gt (sim_op so_ix sim_var (sim_c fun _ => rfl)) (sim_c fun _ => rfl))) (sim_seq (sim_asg (sim_cb sr_int (sim_cons (sim_op so_ix sim_var (sim_c fun _ => rfl)) sim_nil)) sim_gname) (sim_seq (sim_asg (sim_op so_div sim_var sim_var) (sim_gsub sim_var (sim_c fun _ => rfl))) (sim_ret (sim_op so_mod (sim_cb sr_int (sim_cons sim_var sim_nil)) sim_var)))) sim_next) (sim_seq (sim_asg (sim_c fun _ => rfl) sim_gname) (sim_cut (sim_ifS (sim_test (sim_op so_lt (sim_op so_ix sim_var (sim_c fun _ => rfl)) (sim_cb sr_len (sim_cons (sim_op so_ix sim_var (sim_c fun _ => rfl)) sim_nil)))) (sim_asg (sim_op so_ix (sim_op so_ix sim_var (sim_c fun _ => rfl)) (sim_op so_ix sim_var (sim_c fun _ => rfl))) sim_gname) sim_next) (sim_seq (sim_asg (sim_op so_add (sim_op so_ix sim_var (sim_c fun _ => rfl)) (sim_c fun _ => rfl)) (sim_gsub sim_var (sim_c fun _ => rfl))) (sim_seq (sim_ifS (sim_test (sim_op so_ge sim_var (sim_op so_pow (sim_c fun _ => rfl) (sim_c fun _ => rfl)))) (sim_seq (sim_asg (sim_op so_div sim_var sim_var) (sim_gsub sim_var (sim_c fun _ => rfl))) (sim_ret (sim_op so_mod (sim_cb sr_int (sim_cons sim_var sim_nil)) sim_var))) sim_next) (sim_seq (sim_asg (sim_op so_mod (sim_cb sr_int (sim_cons (sim_op so_add (sim_op so_add (sim_op so_mul (sim_op so_ix sim_var (sim_c fun _ => rfl)) (sim_c fun _ => rfl)) (sim_op so_mul sim_var (sim_c fun _ => rfl))) (sim_op so_mul (sim_op so_ix sim_var (sim_c fun _ => rfl)) (sim_c fun _ => rfl))) sim_nil)) (sim_c fun _ => rfl)) (sim_gsub sim_var (sim_c fun _ => rfl))) (sim_ret (sim_op so_mod (sim_op so_div (sim_cb sr_int (sim_cons (sim_op so_ix sim_var (sim_c fun _ => rfl)) sim_nil)) (sim_c fun _ => rfl)) sim_var)))))))
theorem pure_l_take (T : Facts K mg) (vs : List V) (H : Hp) (Q : VK) (E : XK) (h : sp_l_take K vs H Q E) : t_l_take P w K { nx := fun _ H' => Q .non H', rt := Q } (L2.start N_l_take vs) H :=
  pure_cut (N := N_l_take) (t := fun _ => t_l_take P w K) (d := fun _ => r_l_take) (fun S E Ed hK hc px => by obtain ⟨K, cs, c0, M0⟩ := S; cases hK; cases hc; exact sim_l_take T c0 M0) ref_l_take vs H Q E h
theorem len_l_take (vs : List V) (H : Hp) (Q : VK) (E : XK) (h : sp_l_take K vs H Q E) : vs.length = 2 := spD_len len_g_l_take vs H Q E h
theorem sim_l_letters (T : Facts K mg) (c0 : CS) (M0 : Mem) : SimS ⟨K, cs_, c0, M0⟩ (t_l_letters P w K) (r_l_letters) :=
  sim_seq (sim_asg (sim_cb sr_listC (sim_cons (sim_c fun _ => rfl) sim_nil)) sim_gname) (sim_seq (sim_asg (sim_c fun _ => rfl) sim_gname) (sim_seq (sim_for (sim_irng1 (sim_cons (sim_op so_add (sim_c fun _ => rfl) (sim_call po_no (sim_cons sim_var (sim_cons sim_var sim_nil)))) sim_nil)) sim_gname (sim_asg (sim_op so_add sim_var (sim_bmL sm_pop sim_var (sim_cons (sim_call po_no (sim_cons sim_var (sim_cons (sim_cb sr_len (sim_cons sim_var sim_nil)) sim_nil))) sim_nil))) sim_gname)) (sim_ret (sim_bmS sm_join (sim_c fun _ => rfl) (sim_cons (sim_cb sr_srt (sim_cons sim_var sim_nil)) sim_nil)))))
theorem pure_l_letters (T : Facts K mg) (vs : List V) (H : Hp) (Q : VK) (E : XK) (h : sp_l_letters K vs H Q E) : t_l_letters P w K { nx := fun _ H' => Q .non H', rt := Q } (L2.start N_l_letters vs) H :=
  pure_cut (N := N_l_letters) (t := fun _ => t_l_letters P w K) (d := fun _ => r_l_letters) (fun S E Ed hK hc px => by obtain ⟨K, cs, c0, M0⟩ := S; cases hK; cases hc; exact sim_l_letters T c0 M0) ref_l_letters vs H Q E h
theorem len_l_letters (vs : List V) (H : Hp) (Q : VK) (E : XK) (h : sp_l_letters K vs H Q E) : vs.length = 2 := spD_len len_g_l_letters vs H Q E h
theorem sim_l_vowels (T : Facts K mg) (c0 : CS) (M0 : Mem) : SimS ⟨K, cs_, c0, M0⟩ (t_l_vowels P w K) (r_l_vowels) :=
  sim_ret (sim_bmS sm_join (sim_c fun _ => rfl) (sim_cons (sim_lc (gown_name 2) (sim_istr sim_var) sim_gname sim_yes (sim_op so_ix (sim_lst (sim_cons (sim_c fun _ => rfl) (sim_cons sim_var sim_nil))) (sim_call po_no (sim_cons sim_var (sim_cons (sim_c fun _ => rfl) sim_nil))))) sim_nil))
theorem pure_l_vowels (T : Facts K mg) (vs : List V) (H : Hp) (Q : VK) (E : XK) (h : sp_l_vowels K vs H Q E) : t_l_vowels P w K { nx := fun _ H' => Q .non H', rt := Q } (L2.start N_l_vowels vs) H :=
  pure_cut (N := N_l_vowels) (t := fun _ => t_l_vowels P w K) (d := fun _ => r_l_vowels) (fun S E Ed hK hc px => by obtain ⟨K, cs, c0, M0⟩ := S; cases hK; cases hc; exact sim_l_vowels T c0 M0) ref_l_vowels vs H Q E h
theorem len_l_vowels (vs : List V) (H : Hp) (Q : VK) (E : XK) (h : sp_l_vowels K vs H Q E) : vs.length = 2 := spD_len len_g_l_vowels vs H Q E h
theorem sim_l_word (T : Facts K mg) (c0 : CS) (M0 : Mem) : SimS ⟨K, cs_, c0, M0⟩ (t_l_word P w K) (r_l_word) :=
  sim_seq (sim_asg (sim_c fun _ => rfl) sim_gname) (sim_seq (sim_for (sim_irng1 (sim_cons (sim_call po_no (sim_cons sim_var (sim_cons (sim_op so_add sim_var (sim_c fun _ => rfl)) sim_nil))) sim_nil)) sim_gname (sim_ifS (sim_and (sim_test (sim_op so_ne sim_var (sim_c fun _ => rfl))) (sim_test (sim_op so_eq (sim_call po_no (sim_cons sim_var (sim_cons (sim_c fun _ => rfl) sim_nil))) (sim_c fun _ => rfl)))) (sim_asg (sim_op so_add sim_var (sim_op so_ix sim_var (sim_un su_neg (sim_c fun _ => rfl)))) sim_gname) (sim_asg (sim_op so_add sim_var (sim_op so_ix sim_var (sim_call po_no (sim_cons sim_var (sim_cons (sim_cb sr_len (sim_cons sim_var sim_nil)) sim_nil))))) sim_gname))) (sim_ret sim_var))
theorem pure_l_word (T : Facts K mg) (vs : List V) (H : Hp) (Q : VK) (E : XK) (h : sp_l_word K vs H Q E) : t_l_word P w K { nx := fun _ H' => Q .non H', rt := Q } (L2.start N_l_word vs) H :=
  pure_cut (N := N_l_word) (t := fun _ => t_l_word P w K) (d := fun _ => r_l_word) (fun S E Ed hK hc px => by obtain ⟨K, cs, c0, M0⟩ := S; cases hK; cases hc; exact sim_l_word T c0 M0) ref_l_word vs H Q E h
theorem len_l_word (vs : List V) (H : Hp) (Q : VK) (E : XK) (h : sp_l_word K vs H Q E) : vs.length = 3 := spD_len len_g_l_word vs H Q E h
theorem sim_l_table (T : Facts K mg) (c0 : CS) (M0 : Mem) : SimS ⟨K, cs_, c0, M0⟩ (t_l_table P w K) (r_l_table) :=
  sim_seq (sim_asg (sim_op so_add (sim_c fun _ => rfl) (sim_call po_no (sim_cons sim_var (sim_cons sim_var sim_nil)))) sim_gname) (sim_seq (sim_asg (sim_lstC sim_nil) sim_gname) (sim_seq (sim_asg (sim_lstC sim_nil) sim_gname) (sim_seq (sim_for (sim_irng1 (sim_cons sim_var sim_nil)) sim_gname (sim_seq (sim_asg (sim_lstC sim_nil) sim_gname) (sim_seq (sim_for (sim_irng1 (sim_cons (sim_cb sr_len (sim_cons sim_var sim_nil)) sim_nil)) sim_gname (sim_seq (sim_asg (sim_op so_sub (sim_call po_no (sim_cons sim_var (sim_cons (sim_op so_add sim_var (sim_c fun _ => rfl)) sim_nil))) (sim_c fun _ => rfl)) sim_gname) (sim_seq (sim_asg (sim_call po_no (sim_cons sim_var (sim_cons sim_var (sim_cons (sim_c fun _ => rfl) sim_nil)))) sim_gname) (sim_drop (sim_bmL sm_app sim_var (sim_cons (sim_if (sim_test (sim_op so_lt sim_var (sim_c fun _ => rfl))) (sim_c fun _ => rfl) (sim_tup (sim_cons sim_var (sim_cons sim_var sim_nil)))) sim_nil)))))) (sim_seq (sim_drop (sim_bmL sm_app sim_var (sim_cons (sim_frz sim_var) sim_nil))) (sim_seq (sim_asg (sim_call po_no (sim_cons sim_var (sim_cons sim_var (sim_cons (sim_c fun _ => rfl) sim_nil)))) sim_gname) (sim_drop (sim_bmL sm_app sim_var (sim_cons (sim_if (sim_test (sim_op so_eq (sim_call po_no (sim_cons sim_var (sim_cons (sim_c fun _ => rfl) sim_nil))) (sim_c fun _ => rfl))) (sim_c fun _ => rfl) sim_var) sim_nil)))))))) (sim_ret (sim_tupC (sim_cons (sim_call po_no (sim_cons sim_var (sim_cons sim_var (sim_cons (sim_c fun _ => rfl) sim_nil)))) (sim_cons sim_var (sim_cons sim_var sim_nil))))))))
theorem pure_l_table (T : Facts K mg) (vs : List V) (H : Hp) (Q : VK) (E : XK) (h : sp_l_table K vs H Q E) : t_l_table P w K { nx := fun _ H' => Q .non H', rt := Q } (L2.start N_l_table vs) H :=
  pure_keep (N := N_l_table) (t := fun _ => t_l_table P w K) (d := fun _ => r_l_table) (fun S E Ed hK hc px => by obtain ⟨K, cs, c0, M0⟩ := S; cases hK; cases hc; exact sim_l_table T c0 M0) ref_l_table vs H Q E h
theorem len_l_table (vs : List V) (H : Hp) (Q : VK) (E : XK) (h : sp_l_table K vs H Q E) : vs.length = 3 := spD_len len_g_l_table vs H Q E h
theorem sim_l_is_integer (T : Facts K mg) (c0 : CS) (M0 : Mem) : SimS ⟨K, cs_, c0, M0⟩ (t_l_is_integer P w K) (r_l_is_integer) :=
  sim_ret (sim_andV (sim_cb (si_int T) (sim_cons sim_var (sim_cons (sim_c fun _ => rfl) sim_nil))) (sim_notV (sim_cb (si_bool T) (sim_cons sim_var (sim_cons (sim_c fun _ => rfl) sim_nil)))))
theorem pure_l_is_integer (T : Facts K mg) (vs : List V) (H : Hp) (Q : VK) (E : XK) (h : sp_l_is_integer K vs H Q E) : t_l_is_integer P w K { nx := fun _ H' => Q .non H', rt := Q } (L2.start N_l_is_integer vs) H :=
  pure_cut (N := N_l_is_integer) (t := fun _ => t_l_is_integer P w K) (d := fun _ => r_l_is_integer) (fun S E Ed hK hc px => by obtain ⟨K, cs, c0, M0⟩ := S; cases hK; cases hc; exact sim_l_is_integer T c0 M0) ref_l_is_integer vs H Q E h
theorem len_l_is_integer (vs : List V) (H : Hp) (Q : VK) (E : XK) (h : sp_l_is_integer K vs H Q E) : vs.length = 1 := spD_len len_g_l_is_integer vs H Q E h
theorem sim_l_told (T : Facts K mg) (c0 : CS) (M0 : Mem) : SimS ⟨K, cs_, c0, M0⟩ (t_l_told P w K) (r_l_told) :=
  sim_seq (sim_try (S := ⟨K, cs_, c0, M0⟩) (x := .BadTable) (tab := [(.BadTable, true)]) (i := 4) (tb := fun (W : WX) => tDrop (tMakeS (ga K "Machine") (sp_Machine_init K) [] (WE W) (tCons (tVar 0) (tCons (tVar 1) (tCons (tVar 2) (tCons (tVar 3) tNil)))))) (db := fun W => dDrop (dMakeS .Machine g_Machine_init [] W (dCons (dVar 0) (dCons (dVar 1) (dCons (dVar 2) (dCons (dVar 3) dNil)))))) (ts := fun a cls d => tRet (tXf a cls d (ga K "BadTable") "place" (tVar 4))) (dsu := fun a e => dRet (dXf a e .BadTable .place (dVar 4))) (Wout := fun _ _ _ _ => False) (Wo := fun _ _ _ => False) (fun k b h => by simp only [List.mem_cons, List.not_mem_nil, or_false, Prod.mk.injEq] at h; rcases h with ⟨rfl, rfl⟩ <;> first | exact T.em_BadTable_BadTable) (fun c1 M1 ok1 W Wd pw => sim_drop (sim_makeS in_Machine (fun _ => rfl) pw (sim_cons sim_var (sim_cons sim_var (sim_cons sim_var (sim_cons sim_var sim_nil)))))) (fun a cls d e c1 M1 ok1 rx => sim_ret (sim_xf (k := .BadTable) (f := .place) (Same.refl _) rx sim_var)) (fun _ _ _ _ _ _ _ _ _ _ h => False.elim h)) (sim_ret (sim_c fun _ => rfl))
theorem pure_l_told (T : Facts K mg) (vs : List V) (H : Hp) (Q : VK) (E : XK) (h : sp_l_told K vs H Q E) : t_l_told P w K { nx := fun _ H' => Q .non H', rt := Q } (L2.start N_l_told vs) H :=
  pure_cut (N := N_l_told) (t := fun _ => t_l_told P w K) (d := fun _ => r_l_told) (fun S E Ed hK hc px => by obtain ⟨K, cs, c0, M0⟩ := S; cases hK; cases hc; exact sim_l_told T c0 M0) ref_l_told vs H Q E h
theorem len_l_told (vs : List V) (H : Hp) (Q : VK) (E : XK) (h : sp_l_told K vs H Q E) : vs.length = 4 := spD_len len_g_l_told vs H Q E h
theorem sim_l_kinds (T : Facts K mg) (c0 : CS) (M0 : Mem) : SimS ⟨K, cs_, c0, M0⟩ (t_l_kinds P w K) (r_l_kinds) :=
  sim_seq (sim_try (S := ⟨K, cs_, c0, M0⟩) (x := .ClipError) (tab := [(.BadTable, true)]) (i := 4) (tb := fun (W : WX) => tDrop (tMakeS (ga K "Machine") (sp_Machine_init K) [] (WE W) (tCons (tVar 0) (tCons (tVar 1) (tCons (tVar 2) (tCons (tVar 3) tNil)))))) (db := fun W => dDrop (dMakeS .Machine g_Machine_init [] W (dCons (dVar 0) (dCons (dVar 1) (dCons (dVar 2) (dCons (dVar 3) dNil)))))) (ts := fun a cls d => tRet (tAndV (tCB (rIsW K a cls d) (tCons (tVar 4) (tCons (tC (.ty "ValueError")) tNil))) (tAndV (tCB (rIsW K a cls d) (tCons (tVar 4) (tCons (tC (.ref (ga K "BadTable"))) tNil))) (tNotV (tCB (rIsW K a cls d) (tCons (tVar 4) (tCons (tC (.ref (ga K "BadWord"))) tNil))))))) (dsu := fun a e => dRet (dAndV (dCB (uIsX a e tx_ValueError (.ty "ValueError")) (dCons (dVar 4) (dCons (dC (.ty "ValueError")) dNil))) (dAndV (dCB (uIsX a e tx_BadTable (.cls .BadTable)) (dCons (dVar 4) (dCons (dC (.cls .BadTable)) dNil))) (dNotV (dCB (uIsX a e tx_BadWord (.cls .BadWord)) (dCons (dVar 4) (dCons (dC (.cls .BadWord)) dNil))))))) (Wout := fun _ _ _ _ => False) (Wo := fun _ _ _ => False) (fun k b h => by simp only [List.mem_cons, List.not_mem_nil, or_false, Prod.mk.injEq] at h; rcases h with ⟨rfl, rfl⟩ <;> first | exact T.em_BadTable_ClipError) (fun c1 M1 ok1 W Wd pw => sim_drop (sim_makeS in_Machine (fun _ => rfl) pw (sim_cons sim_var (sim_cons sim_var (sim_cons sim_var (sim_cons sim_var sim_nil)))))) (fun a cls d e c1 M1 ok1 rx => sim_ret (sim_andV (sim_cb (sx_ValueError T rx) (sim_cons sim_var (sim_cons (sim_c fun _ => rfl) sim_nil))) (sim_andV (sim_cb (sx_BadTable T rx) (sim_cons sim_var (sim_cons (sim_c fun _ => rfl) sim_nil))) (sim_notV (sim_cb (sx_BadWord T rx) (sim_cons sim_var (sim_cons (sim_c fun _ => rfl) sim_nil))))))) (fun _ _ _ _ _ _ _ _ _ _ h => False.elim h)) (sim_ret (sim_c fun _ => rfl))
theorem pure_l_kinds (T : Facts K mg) (vs : List V) (H : Hp) (Q : VK) (E : XK) (h : sp_l_kinds K vs H Q E) : t_l_kinds P w K { nx := fun _ H' => Q .non H', rt := Q } (L2.start N_l_kinds vs) H :=
  pure_cut (N := N_l_kinds) (t := fun _ => t_l_kinds P w K) (d := fun _ => r_l_kinds) (fun S E Ed hK hc px => by obtain ⟨K, cs, c0, M0⟩ := S; cases hK; cases hc; exact sim_l_kinds T c0 M0) ref_l_kinds vs H Q E h
theorem len_l_kinds (vs : List V) (H : Hp) (Q : VK) (E : XK) (h : sp_l_kinds K vs H Q E) : vs.length = 4 := spD_len len_g_l_kinds vs H Q E h
theorem sim_l_bend (T : Facts K mg) (c0 : CS) (M0 : Mem) : SimS ⟨K, cs_, c0, M0⟩ (t_l_bend P w K) (r_l_bend) :=
  sim_seq (sim_asg (sim_call po_no (sim_cons sim_var (sim_cons (sim_c fun _ => rfl) sim_nil))) sim_gname) (sim_seq (sim_asg (sim_call po_no (sim_cons sim_var (sim_cons (sim_cb sr_len (sim_cons sim_var sim_nil)) sim_nil))) sim_gname) (sim_seq (sim_asg (sim_lc (gown_name 8) (sim_istr sim_var) sim_gname sim_yes (sim_tup (sim_cons (sim_c fun _ => rfl) (sim_cons (sim_op so_ix sim_var (sim_c fun _ => rfl)) sim_nil)))) sim_gname) (sim_seq (sim_asg (sim_op so_ix (sim_lst (sim_cons (sim_cb sr_len (sim_cons sim_var sim_nil)) (sim_cons (sim_un su_neg (sim_c fun _ => rfl)) (sim_cons (sim_op so_add (sim_op so_pow (sim_c fun _ => rfl) (sim_c fun _ => rfl)) (sim_call po_no (sim_cons sim_var (sim_cons (sim_op so_pow (sim_c fun _ => rfl) (sim_c fun _ => rfl)) sim_nil)))) (sim_cons (sim_un su_neg (sim_c fun _ => rfl)) sim_nil))))) (sim_call po_no (sim_cons sim_var (sim_cons (sim_c fun _ => rfl) sim_nil)))) sim_gname) (sim_cut (sim_ifS (sim_test (sim_op so_eq sim_var (sim_c fun _ => rfl))) (sim_asg (sim_sl sl_sl sim_var (sim_part (sim_c fun _ => rfl)) sim_nopart) (sim_gsub sim_var sim_var)) sim_next) (sim_cut (sim_ifS (sim_test (sim_op so_eq sim_var (sim_c fun _ => rfl))) (sim_asg (sim_op so_add sim_var (sim_lst (sim_cons (sim_c fun _ => rfl) sim_nil))) (sim_gsub sim_var sim_var)) sim_next) (sim_cut (sim_ifS (sim_test (sim_op so_eq sim_var (sim_c fun _ => rfl))) (sim_asg (sim_op so_add (sim_op so_add (sim_sl sl_sl sim_var sim_nopart (sim_part sim_var)) (sim_lst (sim_cons (sim_tup (sim_cons sim_var (sim_cons (sim_c fun _ => rfl) sim_nil))) sim_nil))) (sim_sl sl_sl sim_var (sim_part (sim_op so_add sim_var (sim_c fun _ => rfl))) sim_nopart)) (sim_gsub sim_var sim_var)) sim_next) (sim_cut (sim_ifS (sim_test (sim_op so_eq sim_var (sim_c fun _ => rfl))) (sim_asg (sim_op so_add (sim_op so_add (sim_sl sl_sl sim_var sim_nopart (sim_part sim_var)) (sim_lst (sim_cons (sim_tup (sim_cons (sim_c fun _ => rfl) (sim_cons (sim_op so_add sim_var (sim_c fun _ => rfl)) sim_nil))) sim_nil))) (sim_sl sl_sl sim_var (sim_part (sim_op so_add sim_var (sim_c fun _ => rfl))) sim_nopart)) (sim_gsub sim_var sim_var)) sim_next) (sim_cut (sim_ifS (sim_test (sim_op so_eq sim_var (sim_c fun _ => rfl))) (sim_asg (sim_c fun _ => rfl) (sim_gsub sim_var sim_var)) sim_next) (sim_ifS (sim_test (sim_op so_eq sim_var (sim_c fun _ => rfl))) (sim_asg (sim_op so_add (sim_op so_ix sim_var (sim_c fun _ => rfl)) (sim_c fun _ => rfl)) (sim_gsub sim_var sim_var)) sim_next)))))))))
theorem pure_l_bend (T : Facts K mg) (vs : List V) (H : Hp) (Q : VK) (E : XK) (h : sp_l_bend K vs H Q E) : t_l_bend P w K { nx := fun _ H' => Q .non H', rt := Q } (L2.start N_l_bend vs) H :=
  pure_keep (N := N_l_bend) (t := fun _ => t_l_bend P w K) (d := fun _ => r_l_bend) (fun S E Ed hK hc px => by obtain ⟨K, cs, c0, M0⟩ := S; cases hK; cases hc; exact sim_l_bend T c0 M0) ref_l_bend vs H Q E h
theorem len_l_bend (vs : List V) (H : Hp) (Q : VK) (E : XK) (h : sp_l_bend K vs H Q E) : vs.length = 5 := spD_len len_g_l_bend vs H Q E h
theorem sim_law (T : Facts K mg) (c0 : CS) (M0 : Mem) : SimS ⟨K, cs_, c0, M0⟩ (t_law P w K) (r_law) :=
  sim_seq (sim_asg (sim_call po_no (sim_cons sim_var sim_nil)) sim_gname) (sim_seq (sim_asg (sim_call po_no (sim_cons sim_var (sim_cons (sim_c fun _ => rfl) sim_nil))) sim_gname) (sim_seq (sim_asg (sim_make in_Alphabet (fun _ => rfl) po_no (sim_cons sim_var (sim_cons (sim_call po_no (sim_cons sim_var (sim_cons sim_var sim_nil))) sim_nil))) sim_gname) (sim_seq (sim_asg (sim_call po_no (sim_cons sim_var (sim_cons (sim_op so_add (sim_c fun _ => rfl) sim_var) (sim_cons (sim_c fun _ => rfl) sim_nil)))) sim_gname) (sim_seq (sim_asg (sim_op so_ixP sim_var (sim_c fun _ => rfl)) sim_gname) (sim_seq (sim_asg (sim_op so_ixP sim_var (sim_c fun _ => rfl)) sim_gname) (sim_seq (sim_asg (sim_op so_ixP sim_var (sim_c fun _ => rfl)) sim_gname) (sim_seq (sim_ifS (sim_test (sim_op so_isnot (sim_call po_no (sim_cons sim_var (sim_cons sim_var (sim_cons sim_var (sim_cons sim_var sim_nil))))) (sim_c fun _ => rfl))) (sim_ret (sim_c fun _ => rfl)) sim_next) (sim_seq (sim_asg (sim_c fun _ => rfl) sim_gname) (sim_seq (sim_for (sim_irng1 (sim_cons (sim_call po_no (sim_cons sim_var (sim_cons (sim_c fun _ => rfl) sim_nil))) sim_nil)) sim_gname (sim_seq (sim_asg (sim_call po_no (sim_cons sim_var (sim_cons (sim_cb sr_len (sim_cons sim_var sim_nil)) sim_nil))) sim_gname) (sim_seq (sim_drop (sim_call po_no (sim_cons sim_var (sim_cons sim_var (sim_cons sim_var (sim_cons (sim_op so_add (sim_c fun _ => rfl) sim_var) (sim_cons sim_var sim_nil))))))) (sim_asg (sim_if (sim_test (sim_op so_is sim_var (sim_c fun _ => rfl))) sim_var (sim_cb sr_min2 (sim_cons sim_var (sim_cons sim_var sim_nil)))) sim_gname)))) (sim_seq (sim_asg (sim_call po_no (sim_cons sim_var (sim_cons (sim_c fun _ => rfl) sim_nil))) sim_gname) (sim_cut (sim_ifS (sim_test (sim_op so_eq sim_var (sim_c fun _ => rfl))) (sim_asg (sim_sl sl_sl sim_var (sim_part (sim_c fun _ => rfl)) sim_nopart) sim_gname) sim_next) (sim_cut (sim_ifS (sim_test (sim_op so_eq sim_var (sim_c fun _ => rfl))) (sim_drop (sim_bmL sm_app sim_var (sim_cons (sim_c fun _ => rfl) sim_nil))) sim_next) (sim_cut (sim_ifS (sim_test (sim_op so_eq sim_var (sim_c fun _ => rfl))) (sim_asg (sim_op so_add sim_var (sim_c fun _ => rfl)) sim_gname) sim_next) (sim_cut (sim_ifS (sim_test (sim_op so_eq sim_var (sim_c fun _ => rfl))) (sim_asg (sim_lst sim_nil) sim_gname) sim_next) (sim_cut (sim_ifS (sim_test (sim_op so_lt sim_var (sim_c fun _ => rfl))) (sim_asg (sim_un su_neg (sim_c fun _ => rfl)) sim_gname) sim_next) (sim_seq (sim_asg (sim_lcG (gown_name 13) (sim_jls sim_var) sim_gname sim_yes (sim_cb sr_list (sim_cons sim_var sim_nil))) sim_gname) (sim_seq (sim_asg (sim_call po_no (sim_cons sim_var (sim_cons sim_var (sim_cons sim_var (sim_cons sim_var sim_nil))))) sim_gname) (sim_seq (sim_ifS (sim_or (sim_test (sim_op so_ne sim_var sim_var)) (sim_and (sim_test (sim_op so_isnot sim_var (sim_c fun _ => rfl))) (sim_not (sim_tru (sim_call po_no (sim_cons sim_var sim_nil)))))) (sim_ret (sim_c fun _ => rfl)) sim_next) (sim_seq (sim_ifS (sim_and (sim_test (sim_op so_isnot sim_var (sim_c fun _ => rfl))) (sim_not (sim_tru (sim_call po_no (sim_cons sim_var (sim_cons sim_var (sim_cons sim_var (sim_cons sim_var sim_nil)))))))) (sim_ret (sim_c fun _ => rfl)) sim_next) (sim_ret (sim_andV (sim_op so_eq (sim_call po_no (sim_cons sim_var (sim_cons (sim_c fun _ => rfl) (sim_cons (sim_lst sim_nil) (sim_cons (sim_lst sim_nil) sim_nil))))) (sim_un su_neg (sim_c fun _ => rfl))) (sim_op so_eqD sim_var sim_var))))))))))))))))))))))
theorem pure_law (T : Facts K mg) (vs : List V) (H : Hp) (Q : VK) (E : XK) (h : sp_law K vs H Q E) : t_law P w K { nx := fun _ H' => Q .non H', rt := Q } (L2.start N_law vs) H :=
  pure_keep (N := N_law) (t := fun _ => t_law P w K) (d := fun _ => r_law) (fun S E Ed hK hc px => by obtain ⟨K, cs, c0, M0⟩ := S; cases hK; cases hc; exact sim_law T c0 M0) ref_law vs H Q E h
theorem len_law (vs : List V) (H : Hp) (Q : VK) (E : XK) (h : sp_law K vs H Q E) : vs.length = 1 := spD_len len_g_law vs H Q E h
end
section
variable {P : Program} {w : World} {K : PySem.W.Frag} {mg : Str → Option Value} {base : Heap}
theorem sc_BadAlphabet_init : FnScope N_BadAlphabet_init ["self", "part"] (defScope st_BadAlphabet_init) := ⟨rfl, rfl, rfl, by decide +kernel, rfl, by decide +kernel, by decide +kernel⟩
theorem bi_BadAlphabet_init (T : Facts K mg) : Binds K (fdOf K ("BadAlphabet", some "__init__")) ["self", "part"] [] := T.F_BadAlphabet_init.bindsN fun _ _ _ _ _ _ us hl => match us, hl with | [_, _], _ => rfl
theorem ok_BadAlphabet_init (T : Facts K mg) : FnOk P w K mg base (L2.CX P w) 1 (fAd K ("BadAlphabet", some "__init__")) (fdOf K ("BadAlphabet", some "__init__")) ["self", "part"] (sp_BadAlphabet_init K) := by
  refine T.F_BadAlphabet_init.ok sc_BadAlphabet_init (fun vs H Q E h => len_X1 vs H Q E h) (fun cdv A outer s H vs Q E hr h => ⟨t_BadAlphabet_init P w K, PSs.nox ?_, pure_X1 T.x_BadAlphabet.o T.no_BadAlphabet_part vs H Q E h⟩)
  exact pss_cons (ps_expr (pe_binit rfl T.g_ClipError T.bi.s T.bi.t T.bi.r T.bi.v (pa_cons (pv 0) (pa_cons (pe_sv (by decide +kernel)) pa_nil)))) (pss_one (ps_ost (pv 0) (pv 1)))
theorem sc_all_different : FnScope N_all_different ["text"] (defScope st_all_different) := ⟨rfl, rfl, rfl, by decide +kernel, rfl, by decide +kernel, by decide +kernel⟩
theorem bi_all_different (T : Facts K mg) : Binds K (fdOf K ("all_different", none)) ["text"] [] := T.F_all_different.bindsN fun _ _ _ _ _ _ us hl => match us, hl with | [_], _ => rfl
theorem ok_all_different (T : Facts K mg) : FnOk P w K mg base (L2.CX P w) 1 (fAd K ("all_different", none)) (fdOf K ("all_different", none)) ["text"] (sp_all_different K) := by
  refine T.F_all_different.ok sc_all_different (fun vs H Q E h => len_all_different vs H Q E h) (fun cdv A outer s H vs Q E hr h => ⟨t_all_different P w K, PSs.nox ?_, pure_all_different T vs H Q E h⟩)
  exact pss_one (ps_ret (pe_cmpR (oz_eq (hu64 hr)) (pe_callB cz_lenS rfl T.n_len (by decide +kernel) (pa_cons (pe_callTy (cz_set rfl) rfl T.n_set (by decide +kernel) (pa_cons (pv 0) pa_nil)) pa_nil)) (pe_callB cz_lenS rfl T.n_len (by decide +kernel) (pa_cons (pv 0) pa_nil)) (nomark _)))
theorem bi_Alphabet_init (T : Facts K mg) : Binds K (fdOf K ("Alphabet", some "__init__")) ["self", "letters", "vowels"] [] := by
  obtain ⟨ds, h1, h2⟩ := T.F_Alphabet_init.binds1 (ps := ["self", "letters", "vowels"]) 3 1 (by simp) rfl (fun T' kV doc pm an cdv ct us its hu hi => match us, hu, its, hi with | [_, _, _], _, [_], _ => ⟨_, rfl, rfl⟩)
  cases h1
  exact h2
theorem sc_Alphabet_init : FnScope N_Alphabet_init ["self", "letters", "vowels"] (defScope st_Alphabet_init) := ⟨rfl, rfl, rfl, by decide +kernel, rfl, by decide +kernel, by decide +kernel⟩
theorem ok_Alphabet_init (T : Facts K mg) : FnOk P w K mg base (L2.CX P w) 3 (fAd K ("Alphabet", some "__init__")) (fdOf K ("Alphabet", some "__init__")) ["self", "letters", "vowels"] (sp_Alphabet_init K) := by
  refine T.F_Alphabet_init.ok sc_Alphabet_init (fun vs H Q E h => len_Alphabet_init vs H Q E h) (fun cdv A outer s H vs Q E hr h => ⟨t_Alphabet_init P w K E, id ?_, pure_Alphabet_init T vs H Q E h⟩)
  exact pss_cons (ps_setLc (i := 3) (own := [("sign", 4)]) (g := (gName 4)) (tt := (tTest (tOp (zNotIn K) (tVar 4) (tC (sv [97, 98, 99, 100, 101, 102, 103, 104, 105, 106, 107, 108, 109, 110, 111, 112, 113, 114, 115, 116, 117, 118, 119, 120, 121, 122]))))) rfl sc_Alphabet_init.nd rfl rfl (sw_true rfl rfl rfl (by decide +kernel)) (pi_str (pv 1)) (blkOk_by (N := N_Alphabet_init) (sc := defScope st_Alphabet_init) (by decide +kernel)) (fun _ _ _ _ _ => pg_name (i := 4) sc_Alphabet_init.nd rfl (by first | exact Or.inl rfl | exact Or.inr rfl)) (fun _ _ _ _ _ => pts_one (pt_cmpR (oz_notin (hu64 hr)) (pv 4) (pe_glob rfl T.v_SMALL.choose_spec ⟨_, rfl⟩) rfl)) (fun _ _ _ _ _ => pv 4)) (pss_cons (ps_if (PW.pt (pw_or (pt_truth (pv 3) (fun _ => rfl)) (pw_or (pt_not (pt_chain oz_le oz_le pe_int (pe_callB cz_lenS rfl T.n_len (by decide +kernel) (pa_cons (pv 1) pa_nil)) (pe_cval (pe_glob rfl T.g_Alphabet rfl)))) (pw_or1 (pt_not (pt_truth (pe_call (ok_all_different T) (hr.mono (by decide)) rfl T.g_all_different T.F_all_different.kp (bi_all_different T) .nil passL (pa_cons (pv 1) pa_nil)) (fun _ => rfl))))))) (pss_one (ps_raise rfl (takes_of rfl rfl rfl rfl) (pmk_oex T.x_BadAlphabet.o T.i_BadAlphabet T.ti_BadAlphabet (ok_BadAlphabet_init T) (hr.mono (by decide)) (bi_BadAlphabet_init T) .nil passL rfl T.g_BadAlphabet (pa_cons (pe_sv (by decide +kernel)) pa_nil)))) pss_nil) (pss_cons (ps_if (PW.pt (pw_or (pt_truth (pe_lc (own := [("sign", 4)]) (g := (gName 4)) (tt := (tTest (tOp (zNotIn K) (tVar 4) (tVar 1)))) rfl sc_Alphabet_init.nd (pi_str (pv 2)) (blkOk_by (N := N_Alphabet_init) (sc := defScope st_Alphabet_init) (by decide +kernel)) (fun _ _ _ _ _ => pg_name (i := 4) sc_Alphabet_init.nd rfl (by first | exact Or.inl rfl | exact Or.inr rfl)) (fun _ _ _ _ _ => pts_one (pt_cmpR (oz_notin (hu64 hr)) (pv 4) (pv 1) rfl)) (fun _ _ _ _ _ => pv 4)) (fun _ => rfl)) (pw_or1 (pt_not (pt_truth (pe_call (ok_all_different T) (hr.mono (by decide)) rfl T.g_all_different T.F_all_different.kp (bi_all_different T) .nil passL (pa_cons (pv 2) pa_nil)) (fun _ => rfl)))))) (pss_one (ps_raise rfl (takes_of rfl rfl rfl rfl) (pmk_oex T.x_BadAlphabet.o T.i_BadAlphabet T.ti_BadAlphabet (ok_BadAlphabet_init T) (hr.mono (by decide)) (bi_BadAlphabet_init T) .nil passL rfl T.g_BadAlphabet (pa_cons (pe_sv (by decide +kernel)) pa_nil)))) pss_nil) (pss_cons (ps_fld (pv 0) (pe_bm PySem.F.plainAttrs_str PySem.F.slot_str_join PySem.F.type_str_join mz_join (pe_sv (by decide +kernel)) (pa_cons (pe_callB (cz_sortedS rfl) rfl T.n_sorted (by decide +kernel) (pa_cons (pv 1) pa_nil)) pa_nil)) rfl) (pss_cons (ps_fld (pv 0) (pe_bm PySem.F.plainAttrs_str PySem.F.slot_str_join PySem.F.type_str_join mz_join (pe_sv (by decide +kernel)) (pa_cons (pe_callB (cz_sortedS rfl) rfl T.n_sorted (by decide +kernel) (pa_cons (pv 2) pa_nil)) pa_nil)) rfl) (pss_cons (ps_fld (pv 0) (pe_bm PySem.F.plainAttrs_str PySem.F.slot_str_join PySem.F.type_str_join mz_join (pe_sv (by decide +kernel)) (pa_cons (pe_lc (own := [("sign", 4)]) (g := (gName 4)) (tt := (tTest (tOp (zNotIn K) (tVar 4) (tVar 2)))) rfl sc_Alphabet_init.nd (pi_list (pe_callB (cz_sortedS rfl) rfl T.n_sorted (by decide +kernel) (pa_cons (pv 1) pa_nil))) (blkOk_by (N := N_Alphabet_init) (sc := defScope st_Alphabet_init) (by decide +kernel)) (fun _ _ _ _ _ => pg_name (i := 4) sc_Alphabet_init.nd rfl (by first | exact Or.inl rfl | exact Or.inr rfl)) (fun _ _ _ _ _ => pts_one (pt_cmpR (oz_notin (hu64 hr)) (pv 4) (pv 2) rfl)) (fun _ _ _ _ _ => pv 4)) pa_nil)) rfl) (pss_one (ps_fld (pv 0) (pe_op oz_add (pe_cval (pe_glob rfl T.g_Alphabet rfl)) (pe_fld (pv 0) rfl)) rfl)))))))
theorem sc_Alphabet_is_word : FnScope N_Alphabet_is_word ["self", "text"] (defScope st_Alphabet_is_word) := ⟨rfl, rfl, rfl, by decide +kernel, rfl, by decide +kernel, by decide +kernel⟩
theorem bi_Alphabet_is_word (T : Facts K mg) : Binds K (fdOf K ("Alphabet", some "is_word")) ["self", "text"] [] := T.F_Alphabet_is_word.bindsN fun _ _ _ _ _ _ us hl => match us, hl with | [_, _], _ => rfl
theorem ok_Alphabet_is_word (T : Facts K mg) : FnOk P w K mg base (L2.CX P w) 1 (fAd K ("Alphabet", some "is_word")) (fdOf K ("Alphabet", some "is_word")) ["self", "text"] (sp_Alphabet_is_word K) := by
  refine T.F_Alphabet_is_word.ok sc_Alphabet_is_word (fun vs H Q E h => len_Alphabet_is_word vs H Q E h) (fun cdv A outer s H vs Q E hr h => ⟨t_Alphabet_is_word P w K, PSs.nox ?_, pure_Alphabet_is_word T vs H Q E h⟩)
  exact pss_cons (ps_for PassesOwn.never rfl (pi_str (pv 1)) (pg_name (i := 2) sc_Alphabet_is_word.nd rfl (by first | exact Or.inl rfl | exact Or.inr rfl)) (pss_one (ps_if (pt_cmpR (oz_notin (hu64 hr)) (pv 2) (pe_fld (pv 0) rfl) rfl) (pss_one (ps_ret pe_bl)) pss_nil))) (pss_one (ps_ret pe_bl))
theorem sc_BadTable_init : FnScope N_BadTable_init ["self", "place"] (defScope st_BadTable_init) := ⟨rfl, rfl, rfl, by decide +kernel, rfl, by decide +kernel, by decide +kernel⟩
theorem bi_BadTable_init (T : Facts K mg) : Binds K (fdOf K ("BadTable", some "__init__")) ["self", "place"] [] := T.F_BadTable_init.bindsN fun _ _ _ _ _ _ us hl => match us, hl with | [_, _], _ => rfl
theorem ok_BadTable_init (T : Facts K mg) : FnOk P w K mg base (L2.CX P w) 1 (fAd K ("BadTable", some "__init__")) (fdOf K ("BadTable", some "__init__")) ["self", "place"] (sp_BadTable_init K) := by
  refine T.F_BadTable_init.ok sc_BadTable_init (fun vs H Q E h => len_X1 vs H Q E h) (fun cdv A outer s H vs Q E hr h => ⟨t_BadTable_init P w K, PSs.nox ?_, pure_X1 T.x_BadTable.o T.no_BadTable_place vs H Q E h⟩)
  exact pss_cons (ps_expr (pe_binit rfl T.g_ClipError T.bi.s T.bi.t T.bi.r T.bi.v (pa_cons (pv 0) (pa_cons (pe_sv (by decide +kernel)) pa_nil)))) (pss_one (ps_ost (pv 0) (pv 1)))
theorem mo_is_word (T : Facts K mg) : ∀ C sp, okM K cs_ gm_is_word C sp → MethOk P w K mg base (L2.CX P w) 1 "is_word" C sp [] := by
  rintro C sp ⟨k, hk, rfl, q, hg, rfl⟩
  simp only [cs_, List.mem_cons, List.not_mem_nil, or_false] at hk
  rcases hk with rfl | rfl
  · cases hg; exact ⟨T.c_Alphabet, _, _, _, _, T.mb_Alphabet_is_word, (ok_Alphabet_is_word T).mono (by decide), bi_Alphabet_is_word T, .nil⟩
  · cases hg
theorem sc_check_machine : FnScope N_check_machine ["alphabet", "first", "rows", "ends"] (defScope st_check_machine) := ⟨rfl, rfl, rfl, by decide +kernel, rfl, by decide +kernel, by decide +kernel⟩
theorem bi_check_machine (T : Facts K mg) : Binds K (fdOf K ("check_machine", none)) ["alphabet", "first", "rows", "ends"] [] := T.F_check_machine.bindsN fun _ _ _ _ _ _ us hl => match us, hl with | [_, _, _, _], _ => rfl
theorem ok_check_machine (T : Facts K mg) : FnOk P w K mg base (L2.CX P w) 3 (fAd K ("check_machine", none)) (fdOf K ("check_machine", none)) ["alphabet", "first", "rows", "ends"] (sp_check_machine K) := by
  refine T.F_check_machine.ok sc_check_machine (fun vs H Q E h => len_check_machine vs H Q E h) (fun cdv A outer s H vs Q E hr h => ⟨t_check_machine P w K E, id ?_, pure_check_machine T vs H Q E h⟩)
  exact pss_cons (ps_if (PW.pt (pw_or (pt_not (pt_truth (pv 2) (fun _ => rfl))) (pw_or (pt_cmpR (oz_ne (hu64 hr)) (pe_callB cz_lenS rfl T.n_len (by decide +kernel) (pa_cons (pv 2) pa_nil)) (pe_callB cz_lenS rfl T.n_len (by decide +kernel) (pa_cons (pv 3) pa_nil)) (nomark _)) (pw_or1 (pt_not (pt_truth (pe_methN (pv 0) (mo_is_word T) (hr.mono (by decide)) passL (pa_cons (pv 1) pa_nil)) (fun _ => rfl))))))) (pss_one (ps_raise rfl (takes_of rfl rfl rfl rfl) (pmk_oex T.x_BadTable.o T.i_BadTable T.ti_BadTable (ok_BadTable_init T) (hr.mono (by decide)) (bi_BadTable_init T) .nil passL rfl T.g_BadTable (pa_cons (pe_un oz_neg pe_int) pa_nil)))) pss_nil) (pss_one (ps_for PassesOwn.leaving rfl (pi_range1 rfl T.n_range (pa_cons (pe_callB cz_lenS rfl T.n_len (by decide +kernel) (pa_cons (pv 2) pa_nil)) pa_nil)) (pg_name (i := 4) sc_check_machine.nd rfl (by first | exact Or.inl rfl | exact Or.inr rfl)) (pss_cons (ps_if (pt_cmpR (oz_ne (hu64 hr)) (pe_callB cz_lenS rfl T.n_len (by decide +kernel) (pa_cons (pe_ix iz_ix (pv 2) (pv 4) (fun _ _ => rfl)) pa_nil)) (pe_callB cz_lenS rfl T.n_len (by decide +kernel) (pa_cons (pe_fld (pv 0) rfl) pa_nil)) (nomark _)) (pss_one (ps_raise rfl (takes_of rfl rfl rfl rfl) (pmk_oex T.x_BadTable.o T.i_BadTable T.ti_BadTable (ok_BadTable_init T) (hr.mono (by decide)) (bi_BadTable_init T) .nil passL rfl T.g_BadTable (pa_cons (pv 4) pa_nil)))) pss_nil) (pss_cons (ps_for PassesOwn.leaving rfl (pi_list (pe_ix iz_ix (pv 2) (pv 4) (fun _ _ => rfl))) (pg_name (i := 5) sc_check_machine.nd rfl (by first | exact Or.inl rfl | exact Or.inr rfl)) (pss_one (ps_if (PW.pt (pw_and (pt_cmpR oz_isnot (pv 5) pe_non (nomark _)) (pw_and1 (pt_not (PW.pt (pw_and (pt_chain oz_le oz_lt pe_int (pe_ix iz_ix (pv 5) pe_int (fun _ _ => rfl)) (pe_callB cz_lenS rfl T.n_len (by decide +kernel) (pa_cons (pv 2) pa_nil))) (pw_and1 (pt_truth (pe_methN (pv 0) (mo_is_word T) (hr.mono (by decide)) passL (pa_cons (pe_ix iz_ix (pv 5) pe_int (fun _ _ => rfl)) pa_nil)) (fun _ => rfl))))))))) (pss_one (ps_raise rfl (takes_of rfl rfl rfl rfl) (pmk_oex T.x_BadTable.o T.i_BadTable T.ti_BadTable (ok_BadTable_init T) (hr.mono (by decide)) (bi_BadTable_init T) .nil passL rfl T.g_BadTable (pa_cons (pv 4) pa_nil)))) pss_nil))) (pss_one (ps_if (PW.pt (pw_and (pt_cmpR oz_isnot (pe_ix iz_ix (pv 3) (pv 4) (fun _ _ => rfl)) pe_non (nomark _)) (pw_and1 (pt_not (pt_truth (pe_methN (pv 0) (mo_is_word T) (hr.mono (by decide)) passL (pa_cons (pe_ix iz_ix (pv 3) (pv 4) (fun _ _ => rfl)) pa_nil)) (fun _ => rfl)))))) (pss_one (ps_raise rfl (takes_of rfl rfl rfl rfl) (pmk_oex T.x_BadTable.o T.i_BadTable T.ti_BadTable (ok_BadTable_init T) (hr.mono (by decide)) (bi_BadTable_init T) .nil passL rfl T.g_BadTable (pa_cons (pv 4) pa_nil)))) pss_nil))))))
theorem sc_Machine_init : FnScope N_Machine_init ["self", "alphabet", "first", "rows", "ends"] (defScope st_Machine_init) := ⟨rfl, rfl, rfl, by decide +kernel, rfl, by decide +kernel, by decide +kernel⟩
theorem bi_Machine_init (T : Facts K mg) : Binds K (fdOf K ("Machine", some "__init__")) ["self", "alphabet", "first", "rows", "ends"] [] := T.F_Machine_init.bindsN fun _ _ _ _ _ _ us hl => match us, hl with | [_, _, _, _, _], _ => rfl
theorem ok_Machine_init (T : Facts K mg) : FnOk P w K mg base (L2.CX P w) 4 (fAd K ("Machine", some "__init__")) (fdOf K ("Machine", some "__init__")) ["self", "alphabet", "first", "rows", "ends"] (sp_Machine_init K) := by
  refine T.F_Machine_init.ok sc_Machine_init (fun vs H Q E h => len_Machine_init vs H Q E h) (fun cdv A outer s H vs Q E hr h => ⟨t_Machine_init P w K E, id ?_, pure_Machine_init T vs H Q E h⟩)
  exact pss_cons (ps_expr (pe_call (ok_check_machine T) (hr.mono (by decide)) rfl T.g_check_machine T.F_check_machine.kp (bi_check_machine T) .nil (passes_call (takes_of rfl rfl rfl rfl) (fun _ _ _ _ h => h)) (pa_cons (pv 1) (pa_cons (pv 2) (pa_cons (pv 3) (pa_cons (pv 4) pa_nil)))))) (pss_cons (ps_fld (pv 0) (pv 1) rfl) (pss_cons (ps_fld (pv 0) (pv 2) rfl) (pss_cons (ps_fld (pv 0) (pe_lc (own := [("steps", 5)]) (g := (gName 5)) (tt := tYes) rfl sc_Machine_init.nd (pi_list (pv 3)) (blkOk_by (N := N_Machine_init) (sc := defScope st_Machine_init) (by decide +kernel)) (fun _ _ _ _ _ => pg_name (i := 5) sc_Machine_init.nd rfl (by first | exact Or.inl rfl | exact Or.inr rfl)) (fun _ _ _ _ _ => pts_nil) (fun _ _ _ _ _ => pe_callTy (cz_listT rfl) rfl T.n_list (by decide +kernel) (pa_cons (pv 5) pa_nil))) rfl) (pss_one (ps_fld (pv 0) (pe_callTy (cz_listT rfl) rfl T.n_list (by decide +kernel) (pa_cons (pv 4) pa_nil)) rfl)))))
theorem sc_l_bag : FnScope N_l_bag ["_law_script"] (defScope st_l_bag) := ⟨rfl, rfl, rfl, by decide +kernel, rfl, by decide +kernel, by decide +kernel⟩
theorem bi_l_bag (T : Facts K mg) : Binds K (fdOf K ("_law_bag", none)) ["_law_script"] [] := T.F_l_bag.bindsN fun _ _ _ _ _ _ us hl => match us, hl with | [_], _ => rfl
theorem ok_l_bag (T : Facts K mg) : FnOk P w K mg base (L2.CX P w) 1 (fAd K ("_law_bag", none)) (fdOf K ("_law_bag", none)) ["_law_script"] (sp_l_bag K) := by
  refine T.F_l_bag.ok sc_l_bag (fun vs H Q E h => len_l_bag vs H Q E h) (fun cdv A outer s H vs Q E hr h => ⟨t_l_bag P w K, PSs.nox ?_, pure_l_bag T vs H Q E h⟩)
  exact pss_one (ps_ret (pe_lst (pa_cons (pe_callTy (cz_listT rfl) rfl T.n_list (by decide +kernel) (pa_cons (pe_slice sz_sl (pv 0) po_none (po_some pe_int)) pa_nil)) (pa_cons pe_int (pa_cons pe_int (pa_cons pe_int pa_nil))))))
theorem sc_l_take : FnScope N_l_take ["_law_bag_here", "_law_size"] (defScope st_l_take) := ⟨rfl, rfl, rfl, by decide +kernel, rfl, by decide +kernel, by decide +kernel⟩
theorem bi_l_take (T : Facts K mg) : Binds K (fdOf K ("_law_take", none)) ["_law_bag_here", "_law_size"] [] := T.F_l_take.bindsN fun _ _ _ _ _ _ us hl => match us, hl with | [_, _], _ => rfl
theorem ok_l_take (T : Facts K mg) : FnOk P w K mg base (L2.CX P w) 1 (fAd K ("_law_take", none)) (fdOf K ("_law_take", none)) ["_law_bag_here", "_law_size"] (sp_l_take K) := by
  refine T.F_l_take.ok sc_l_take (fun vs H Q E h => len_l_take vs H Q E h) (fun cdv A outer s H vs Q E hr h => ⟨t_l_take P w K, PSs.nox ?_, pure_l_take T vs H Q E h⟩)
  exact pss_cons (ps_if (pt_cmpR oz_gt (pe_ix iz_ix (pv 0) pe_int (fun _ _ => rfl)) pe_int (nomark _)) (pss_cons (ps_set (i := 2) sc_l_take.nd rfl (by first | exact Or.inl rfl | exact Or.inr rfl) (pe_callTy cz_int2 rfl T.n_int (by decide +kernel) (pa_cons (pe_ix iz_ix (pv 0) pe_int (fun _ _ => rfl)) pa_nil))) (pss_cons (ps_asg (pe_op oz_div (pv 2) (pv 1)) (pg_sub (pv 0) pe_int set_list)) (pss_one (ps_ret (pe_op oz_mod (pe_callTy cz_int2 rfl T.n_int (by decide +kernel) (pa_cons (pv 2) pa_nil)) (pv 1)))))) pss_nil) (pss_cons (ps_set (i := 3) sc_l_take.nd rfl (by first | exact Or.inl rfl | exact Or.inr rfl) pe_int) (pss_cons (ps_if (pt_cmpR oz_lt (pe_ix iz_ix (pv 0) pe_int (fun _ _ => rfl)) (pe_callB cz_lenS rfl T.n_len (by decide +kernel) (pa_cons (pe_ix iz_ix (pv 0) pe_int (fun _ _ => rfl)) pa_nil)) (nomark _)) (pss_one (ps_set (i := 3) sc_l_take.nd rfl (by first | exact Or.inl rfl | exact Or.inr rfl) (pe_ix iz_ix (pe_ix iz_ix (pv 0) pe_int (fun _ _ => rfl)) (pe_ix iz_ix (pv 0) pe_int (fun _ _ => rfl)) (fun _ _ => rfl)))) pss_nil) (pss_cons (ps_asg (pe_op oz_add (pe_ix iz_ix (pv 0) pe_int (fun _ _ => rfl)) pe_int) (pg_sub (pv 0) pe_int set_list)) (pss_cons (ps_if (pt_cmpR oz_ge (pv 3) (pe_op oz_pow pe_int pe_int) (nomark _)) (pss_cons (ps_asg (pe_op oz_div (pv 3) (pv 1)) (pg_sub (pv 0) pe_int set_list)) (pss_one (ps_ret (pe_op oz_mod (pe_callTy cz_int2 rfl T.n_int (by decide +kernel) (pa_cons (pv 3) pa_nil)) (pv 1))))) pss_nil) (pss_cons (ps_asg (pe_op oz_mod (pe_callTy cz_int2 rfl T.n_int (by decide +kernel) (pa_cons (pe_op oz_add (pe_op oz_add (pe_op oz_mul (pe_ix iz_ix (pv 0) pe_int (fun _ _ => rfl)) pe_int) (pe_op oz_mul (pv 3) pe_int)) (pe_op oz_mul (pe_ix iz_ix (pv 0) pe_int (fun _ _ => rfl)) pe_int)) pa_nil)) pe_int) (pg_sub (pv 0) pe_int set_list)) (pss_one (ps_ret (pe_op oz_mod (pe_op oz_div (pe_callTy cz_int2 rfl T.n_int (by decide +kernel) (pa_cons (pe_ix iz_ix (pv 0) pe_int (fun _ _ => rfl)) pa_nil)) pe_int) (pv 1)))))))))
theorem sc_l_letters : FnScope N_l_letters ["_law_bag_here", "_law_top"] (defScope st_l_letters) := ⟨rfl, rfl, rfl, by decide +kernel, rfl, by decide +kernel, by decide +kernel⟩
theorem bi_l_letters (T : Facts K mg) : Binds K (fdOf K ("_law_letters", none)) ["_law_bag_here", "_law_top"] [] := T.F_l_letters.bindsN fun _ _ _ _ _ _ us hl => match us, hl with | [_, _], _ => rfl
theorem ok_l_letters (T : Facts K mg) : FnOk P w K mg base (L2.CX P w) 2 (fAd K ("_law_letters", none)) (fdOf K ("_law_letters", none)) ["_law_bag_here", "_law_top"] (sp_l_letters K) := by
  refine T.F_l_letters.ok sc_l_letters (fun vs H Q E h => len_l_letters vs H Q E h) (fun cdv A outer s H vs Q E hr h => ⟨t_l_letters P w K, PSs.nox ?_, pure_l_letters T vs H Q E h⟩)
  exact pss_cons (ps_set (i := 2) sc_l_letters.nd rfl (by first | exact Or.inl rfl | exact Or.inr rfl) (pe_callTy (cz_listT rfl) rfl T.n_list (by decide +kernel) (pa_cons (pe_sv (by decide +kernel)) pa_nil))) (pss_cons (ps_set (i := 3) sc_l_letters.nd rfl (by first | exact Or.inl rfl | exact Or.inr rfl) (pe_sv (by decide +kernel))) (pss_cons (ps_for PassesOwn.never rfl (pi_range1 rfl T.n_range (pa_cons (pe_op oz_add pe_int (pe_call (ok_l_take T) (hr.mono (by decide)) rfl T.g__law_take T.F_l_take.kp (bi_l_take T) .nil passL (pa_cons (pv 0) (pa_cons (pv 1) pa_nil)))) pa_nil)) (pg_name (i := 4) sc_l_letters.nd rfl (by first | exact Or.inl rfl | exact Or.inr rfl)) (pss_one (ps_set (i := 3) sc_l_letters.nd rfl (by first | exact Or.inl rfl | exact Or.inr rfl) (pe_op oz_add (pv 3) (pe_bm PySem.F.plainAttrs_list PySem.F.slot_list_pop PySem.F.type_list_pop mz_pop (pv 2) (pa_cons (pe_call (ok_l_take T) (hr.mono (by decide)) rfl T.g__law_take T.F_l_take.kp (bi_l_take T) .nil passL (pa_cons (pv 0) (pa_cons (pe_callB cz_lenS rfl T.n_len (by decide +kernel) (pa_cons (pv 2) pa_nil)) pa_nil))) pa_nil)))))) (pss_one (ps_ret (pe_bm PySem.F.plainAttrs_str PySem.F.slot_str_join PySem.F.type_str_join mz_join (pe_sv (by decide +kernel)) (pa_cons (pe_callB (cz_sortedS rfl) rfl T.n_sorted (by decide +kernel) (pa_cons (pv 3) pa_nil)) pa_nil))))))
theorem sc_l_vowels : FnScope N_l_vowels ["_law_bag_here", "_law_letters_here"] (defScope st_l_vowels) := ⟨rfl, rfl, rfl, by decide +kernel, rfl, by decide +kernel, by decide +kernel⟩
theorem bi_l_vowels (T : Facts K mg) : Binds K (fdOf K ("_law_vowels", none)) ["_law_bag_here", "_law_letters_here"] [] := T.F_l_vowels.bindsN fun _ _ _ _ _ _ us hl => match us, hl with | [_, _], _ => rfl
theorem ok_l_vowels (T : Facts K mg) : FnOk P w K mg base (L2.CX P w) 2 (fAd K ("_law_vowels", none)) (fdOf K ("_law_vowels", none)) ["_law_bag_here", "_law_letters_here"] (sp_l_vowels K) := by
  refine T.F_l_vowels.ok sc_l_vowels (fun vs H Q E h => len_l_vowels vs H Q E h) (fun cdv A outer s H vs Q E hr h => ⟨t_l_vowels P w K, PSs.nox ?_, pure_l_vowels T vs H Q E h⟩)
  exact pss_one (ps_ret (pe_bm PySem.F.plainAttrs_str PySem.F.slot_str_join PySem.F.type_str_join mz_join (pe_sv (by decide +kernel)) (pa_cons (pe_lc (own := [("_law_sign", 2)]) (g := (gName 2)) (tt := tYes) rfl sc_l_vowels.nd (pi_str (pv 1)) (blkOk_by (N := N_l_vowels) (sc := defScope st_l_vowels) (by decide +kernel)) (fun _ _ _ _ _ => pg_name (i := 2) sc_l_vowels.nd rfl (by first | exact Or.inl rfl | exact Or.inr rfl)) (fun _ _ _ _ _ => pts_nil) (fun _ _ _ _ _ => pe_ix iz_ix (pe_lst (pa_cons (pe_sv (by decide +kernel)) (pa_cons (pv 2) pa_nil))) (pe_call (ok_l_take T) (hr.mono (by decide)) rfl T.g__law_take T.F_l_take.kp (bi_l_take T) .nil passL (pa_cons (pv 0) (pa_cons pe_int pa_nil))) (fun _ _ => rfl))) pa_nil)))
theorem sc_l_word : FnScope N_l_word ["_law_bag_here", "_law_signs", "_law_top"] (defScope st_l_word) := ⟨rfl, rfl, rfl, by decide +kernel, rfl, by decide +kernel, by decide +kernel⟩
theorem bi_l_word (T : Facts K mg) : Binds K (fdOf K ("_law_word", none)) ["_law_bag_here", "_law_signs", "_law_top"] [] := T.F_l_word.bindsN fun _ _ _ _ _ _ us hl => match us, hl with | [_, _, _], _ => rfl
theorem ok_l_word (T : Facts K mg) : FnOk P w K mg base (L2.CX P w) 2 (fAd K ("_law_word", none)) (fdOf K ("_law_word", none)) ["_law_bag_here", "_law_signs", "_law_top"] (sp_l_word K) := by
  refine T.F_l_word.ok sc_l_word (fun vs H Q E h => len_l_word vs H Q E h) (fun cdv A outer s H vs Q E hr h => ⟨t_l_word P w K, PSs.nox ?_, pure_l_word T vs H Q E h⟩)
  exact pss_cons (ps_set (i := 3) sc_l_word.nd rfl (by first | exact Or.inl rfl | exact Or.inr rfl) (pe_sv (by decide +kernel))) (pss_cons (ps_for PassesOwn.never rfl (pi_range1 rfl T.n_range (pa_cons (pe_call (ok_l_take T) (hr.mono (by decide)) rfl T.g__law_take T.F_l_take.kp (bi_l_take T) .nil passL (pa_cons (pv 0) (pa_cons (pe_op oz_add (pv 2) pe_int) pa_nil))) pa_nil)) (pg_name (i := 4) sc_l_word.nd rfl (by first | exact Or.inl rfl | exact Or.inr rfl)) (pss_one (ps_if (PW.pt (pw_and (pt_cmpR (oz_ne (hu64 hr)) (pv 3) (pe_sv (by decide +kernel)) (nomark _)) (pw_and1 (pt_cmpR (oz_eq (hu64 hr)) (pe_call (ok_l_take T) (hr.mono (by decide)) rfl T.g__law_take T.F_l_take.kp (bi_l_take T) .nil passL (pa_cons (pv 0) (pa_cons pe_int pa_nil))) pe_int (nomark _))))) (pss_one (ps_set (i := 3) sc_l_word.nd rfl (by first | exact Or.inl rfl | exact Or.inr rfl) (pe_op oz_add (pv 3) (pe_ix iz_ix (pv 3) (pe_un oz_neg pe_int) (fun _ _ => rfl))))) (pss_one (ps_set (i := 3) sc_l_word.nd rfl (by first | exact Or.inl rfl | exact Or.inr rfl) (pe_op oz_add (pv 3) (pe_ix iz_ix (pv 1) (pe_call (ok_l_take T) (hr.mono (by decide)) rfl T.g__law_take T.F_l_take.kp (bi_l_take T) .nil passL (pa_cons (pv 0) (pa_cons (pe_callB cz_lenS rfl T.n_len (by decide +kernel) (pa_cons (pv 1) pa_nil)) pa_nil))) (fun _ _ => rfl)))))))) (pss_one (ps_ret (pv 3))))
theorem sc_l_table : FnScope N_l_table ["_law_bag_here", "_law_signs", "_law_top"] (defScope st_l_table) := ⟨rfl, rfl, rfl, by decide +kernel, rfl, by decide +kernel, by decide +kernel⟩
theorem bi_l_table (T : Facts K mg) : Binds K (fdOf K ("_law_table", none)) ["_law_bag_here", "_law_signs", "_law_top"] [] := T.F_l_table.bindsN fun _ _ _ _ _ _ us hl => match us, hl with | [_, _, _], _ => rfl
theorem ok_l_table (T : Facts K mg) : FnOk P w K mg base (L2.CX P w) 3 (fAd K ("_law_table", none)) (fdOf K ("_law_table", none)) ["_law_bag_here", "_law_signs", "_law_top"] (sp_l_table K) := by
  refine T.F_l_table.ok sc_l_table (fun vs H Q E h => len_l_table vs H Q E h) (fun cdv A outer s H vs Q E hr h => ⟨t_l_table P w K, PSs.nox ?_, pure_l_table T vs H Q E h⟩)
  exact pss_cons (ps_set (i := 3) sc_l_table.nd rfl (by first | exact Or.inl rfl | exact Or.inr rfl) (pe_op oz_add pe_int (pe_call (ok_l_take T) (hr.mono (by decide)) rfl T.g__law_take T.F_l_take.kp (bi_l_take T) .nil passL (pa_cons (pv 0) (pa_cons (pv 2) pa_nil))))) (pss_cons (ps_set (i := 4) sc_l_table.nd rfl (by first | exact Or.inl rfl | exact Or.inr rfl) (pe_lst pa_nil)) (pss_cons (ps_set (i := 5) sc_l_table.nd rfl (by first | exact Or.inl rfl | exact Or.inr rfl) (pe_lst pa_nil)) (pss_cons (ps_for PassesOwn.never rfl (pi_range1 rfl T.n_range (pa_cons (pv 3) pa_nil)) (pg_name (i := 6) sc_l_table.nd rfl (by first | exact Or.inl rfl | exact Or.inr rfl)) (pss_cons (ps_set (i := 7) sc_l_table.nd rfl (by first | exact Or.inl rfl | exact Or.inr rfl) (pe_lst pa_nil)) (pss_cons (ps_for PassesOwn.never rfl (pi_range1 rfl T.n_range (pa_cons (pe_callB cz_lenS rfl T.n_len (by decide +kernel) (pa_cons (pv 1) pa_nil)) pa_nil)) (pg_name (i := 8) sc_l_table.nd rfl (by first | exact Or.inl rfl | exact Or.inr rfl)) (pss_cons (ps_set (i := 9) sc_l_table.nd rfl (by first | exact Or.inl rfl | exact Or.inr rfl) (pe_op oz_sub (pe_call (ok_l_take T) (hr.mono (by decide)) rfl T.g__law_take T.F_l_take.kp (bi_l_take T) .nil passL (pa_cons (pv 0) (pa_cons (pe_op oz_add (pv 3) pe_int) pa_nil))) pe_int)) (pss_cons (ps_set (i := 10) sc_l_table.nd rfl (by first | exact Or.inl rfl | exact Or.inr rfl) (pe_call (ok_l_word T) (hr.mono (by decide)) rfl T.g__law_word T.F_l_word.kp (bi_l_word T) .nil passL (pa_cons (pv 0) (pa_cons (pv 1) (pa_cons pe_int pa_nil))))) (pss_one (ps_expr (pe_bm PySem.F.plainAttrs_list PySem.F.slot_list_append PySem.F.type_list_append mz_app (pv 7) (pa_cons (pe_ifExp (pt_cmpR oz_lt (pv 9) pe_int (nomark _)) pe_non (pe_tup (pa_cons (pv 9) (pa_cons (pv 10) pa_nil)))) pa_nil))))))) (pss_cons (ps_expr (pe_bm PySem.F.plainAttrs_list PySem.F.slot_list_append PySem.F.type_list_append mz_app (pv 4) (pa_cons (pv 7) pa_nil))) (pss_cons (ps_set (i := 11) sc_l_table.nd rfl (by first | exact Or.inl rfl | exact Or.inr rfl) (pe_call (ok_l_word T) (hr.mono (by decide)) rfl T.g__law_word T.F_l_word.kp (bi_l_word T) .nil passL (pa_cons (pv 0) (pa_cons (pv 1) (pa_cons pe_int pa_nil))))) (pss_one (ps_expr (pe_bm PySem.F.plainAttrs_list PySem.F.slot_list_append PySem.F.type_list_append mz_app (pv 5) (pa_cons (pe_ifExp (pt_cmpR (oz_eq (hu64 hr)) (pe_call (ok_l_take T) (hr.mono (by decide)) rfl T.g__law_take T.F_l_take.kp (bi_l_take T) .nil passL (pa_cons (pv 0) (pa_cons pe_int pa_nil))) pe_int (nomark _)) pe_non (pv 11)) pa_nil))))))))) (pss_one (ps_ret (pe_tup (pa_cons (pe_call (ok_l_word T) (hr.mono (by decide)) rfl T.g__law_word T.F_l_word.kp (bi_l_word T) .nil passL (pa_cons (pv 0) (pa_cons (pv 1) (pa_cons pe_int pa_nil)))) (pa_cons (pv 4) (pa_cons (pv 5) pa_nil)))))))))
theorem sc_l_is_integer : FnScope N_l_is_integer ["_law_thing"] (defScope st_l_is_integer) := ⟨rfl, rfl, rfl, by decide +kernel, rfl, by decide +kernel, by decide +kernel⟩
theorem bi_l_is_integer (T : Facts K mg) : Binds K (fdOf K ("_law_is_integer", none)) ["_law_thing"] [] := T.F_l_is_integer.bindsN fun _ _ _ _ _ _ us hl => match us, hl with | [_], _ => rfl
theorem ok_l_is_integer (T : Facts K mg) : FnOk P w K mg base (L2.CX P w) 1 (fAd K ("_law_is_integer", none)) (fdOf K ("_law_is_integer", none)) ["_law_thing"] (sp_l_is_integer K) := by
  refine T.F_l_is_integer.ok sc_l_is_integer (fun vs H Q E h => len_l_is_integer vs H Q E h) (fun cdv A outer s H vs Q E hr h => ⟨t_l_is_integer P w K, PSs.nox ?_, pure_l_is_integer T vs H Q E h⟩)
  exact pss_one (ps_ret (pe_and (pe_callB cz_isi rfl T.n_isinstance (by decide +kernel) (pa_cons (pv 0) (pa_cons (pe_bltn rfl T.n_int (by decide +kernel) rfl) pa_nil))) (pe_one (pe_not (pe_callB cz_isi rfl T.n_isinstance (by decide +kernel) (pa_cons (pv 0) (pa_cons (pe_bltn rfl T.n_bool (by decide +kernel) rfl) pa_nil)))))))
theorem sc_l_told : FnScope N_l_told ["_law_alphabet", "_law_first", "_law_rows", "_law_ends"] (defScope st_l_told) := ⟨rfl, rfl, rfl, by decide +kernel, rfl, by decide +kernel, by decide +kernel⟩
theorem bi_l_told (T : Facts K mg) : Binds K (fdOf K ("_law_told", none)) ["_law_alphabet", "_law_first", "_law_rows", "_law_ends"] [] := T.F_l_told.bindsN fun _ _ _ _ _ _ us hl => match us, hl with | [_, _, _, _], _ => rfl
theorem ok_l_told (T : Facts K mg) : FnOk P w K mg base (L2.CX P w) 6 (fAd K ("_law_told", none)) (fdOf K ("_law_told", none)) ["_law_alphabet", "_law_first", "_law_rows", "_law_ends"] (sp_l_told K) := by
  refine T.F_l_told.ok sc_l_told (fun vs H Q E h => len_l_told vs H Q E h) (fun cdv A outer s H vs Q E hr h => ⟨t_l_told P w K, PSs.nox ?_, pure_l_told T vs H Q E h⟩)
  exact pss_cons (ps_try_as (i := 4) (tb := fun (W : WX) => tDrop (tMakeS (ga K "Machine") (sp_Machine_init K) [] (WE W) (tCons (tVar 0) (tCons (tVar 1) (tCons (tVar 2) (tCons (tVar 3) tNil)))))) (ts := fun a cls d => tRet (tXf a cls d (ga K "BadTable") "place" (tVar 4))) (Wout := fun _ _ _ _ => False) rfl rfl sc_l_told.nd rfl rfl ⟨rfl, by decide, Or.inl T.g_BadTable⟩ takes0 (fun W pn xe tk _ => pss_one (ps_expr (pe_makeS T.mk_Machine (ok_Machine_init T) (hr.mono (by decide)) rfl T.g_Machine (bi_Machine_init T) .nil (fun σ => passAt tk σ) (pa_cons (pv 0) (pa_cons (pv 1) (pa_cons (pv 2) (pa_cons (pv 3) pa_nil))))))) (fun a oe cls d pn hz hf => pss_one (ps_ret (pe_xf T.x_BadTable.f T.no_BadTable_place hz hf (pv 4))))) (pss_one (ps_ret pe_non))
theorem sc_l_kinds : FnScope N_l_kinds ["_law_alphabet", "_law_first", "_law_rows", "_law_ends"] (defScope st_l_kinds) := ⟨rfl, rfl, rfl, by decide +kernel, rfl, by decide +kernel, by decide +kernel⟩
theorem bi_l_kinds (T : Facts K mg) : Binds K (fdOf K ("_law_kinds", none)) ["_law_alphabet", "_law_first", "_law_rows", "_law_ends"] [] := T.F_l_kinds.bindsN fun _ _ _ _ _ _ us hl => match us, hl with | [_, _, _, _], _ => rfl
theorem ok_l_kinds (T : Facts K mg) : FnOk P w K mg base (L2.CX P w) 6 (fAd K ("_law_kinds", none)) (fdOf K ("_law_kinds", none)) ["_law_alphabet", "_law_first", "_law_rows", "_law_ends"] (sp_l_kinds K) := by
  refine T.F_l_kinds.ok sc_l_kinds (fun vs H Q E h => len_l_kinds vs H Q E h) (fun cdv A outer s H vs Q E hr h => ⟨t_l_kinds P w K, PSs.nox ?_, pure_l_kinds T vs H Q E h⟩)
  exact pss_cons (ps_try_as (i := 4) (tb := fun (W : WX) => tDrop (tMakeS (ga K "Machine") (sp_Machine_init K) [] (WE W) (tCons (tVar 0) (tCons (tVar 1) (tCons (tVar 2) (tCons (tVar 3) tNil)))))) (ts := fun a cls d => tRet (tAndV (tCB (rIsW K a cls d) (tCons (tVar 4) (tCons (tC (.ty "ValueError")) tNil))) (tAndV (tCB (rIsW K a cls d) (tCons (tVar 4) (tCons (tC (.ref (ga K "BadTable"))) tNil))) (tNotV (tCB (rIsW K a cls d) (tCons (tVar 4) (tCons (tC (.ref (ga K "BadWord"))) tNil))))))) (Wout := fun _ _ _ _ => False) rfl rfl sc_l_kinds.nd rfl rfl ⟨rfl, by decide, Or.inl T.g_ClipError⟩ takes0 (fun W pn xe tk _ => pss_one (ps_expr (pe_makeS T.mk_Machine (ok_Machine_init T) (hr.mono (by decide)) rfl T.g_Machine (bi_Machine_init T) .nil (fun σ => passAt tk σ) (pa_cons (pv 0) (pa_cons (pv 1) (pa_cons (pv 2) (pa_cons (pv 3) pa_nil))))))) (fun a oe cls d pn hz hf => pss_one (ps_ret (pe_and (pe_callB (call_isW hz hf) rfl T.n_isinstance (by decide +kernel) (pa_cons (pv 4) (pa_cons (pe_bltn rfl T.n_ValueError (by decide +kernel) rfl) pa_nil))) (pe_and (pe_callB (call_isW hz hf) rfl T.n_isinstance (by decide +kernel) (pa_cons (pv 4) (pa_cons (pe_glob rfl T.g_BadTable rfl) pa_nil))) (pe_one (pe_not (pe_callB (call_isW hz hf) rfl T.n_isinstance (by decide +kernel) (pa_cons (pv 4) (pa_cons (pe_glob rfl T.g_BadWord rfl) pa_nil)))))))))) (pss_one (ps_ret pe_bl))
theorem sc_l_bend : FnScope N_l_bend ["_law_bag_here", "_law_rows", "_law_ends", "_law_signs", "_law_place"] (defScope st_l_bend) := ⟨rfl, rfl, rfl, by decide +kernel, rfl, by decide +kernel, by decide +kernel⟩
theorem bi_l_bend (T : Facts K mg) : Binds K (fdOf K ("_law_bend", none)) ["_law_bag_here", "_law_rows", "_law_ends", "_law_signs", "_law_place"] [] := T.F_l_bend.bindsN fun _ _ _ _ _ _ us hl => match us, hl with | [_, _, _, _, _], _ => rfl
theorem ok_l_bend (T : Facts K mg) : FnOk P w K mg base (L2.CX P w) 2 (fAd K ("_law_bend", none)) (fdOf K ("_law_bend", none)) ["_law_bag_here", "_law_rows", "_law_ends", "_law_signs", "_law_place"] (sp_l_bend K) := by
  refine T.F_l_bend.ok sc_l_bend (fun vs H Q E h => len_l_bend vs H Q E h) (fun cdv A outer s H vs Q E hr h => ⟨t_l_bend P w K, PSs.nox ?_, pure_l_bend T vs H Q E h⟩)
  exact pss_cons (ps_set (i := 5) sc_l_bend.nd rfl (by first | exact Or.inl rfl | exact Or.inr rfl) (pe_call (ok_l_take T) (hr.mono (by decide)) rfl T.g__law_take T.F_l_take.kp (bi_l_take T) .nil passL (pa_cons (pv 0) (pa_cons pe_int pa_nil)))) (pss_cons (ps_set (i := 6) sc_l_bend.nd rfl (by first | exact Or.inl rfl | exact Or.inr rfl) (pe_call (ok_l_take T) (hr.mono (by decide)) rfl T.g__law_take T.F_l_take.kp (bi_l_take T) .nil passL (pa_cons (pv 0) (pa_cons (pe_callB cz_lenS rfl T.n_len (by decide +kernel) (pa_cons (pv 3) pa_nil)) pa_nil)))) (pss_cons (ps_setLc (i := 7) (own := [("_law_sign", 8)]) (g := (gName 8)) (tt := tYes) rfl sc_l_bend.nd rfl rfl (sw_true rfl rfl rfl (by decide +kernel)) (pi_str (pv 3)) (blkOk_by (N := N_l_bend) (sc := defScope st_l_bend) (by decide +kernel)) (fun _ _ _ _ _ => pg_name (i := 8) sc_l_bend.nd rfl (by first | exact Or.inl rfl | exact Or.inr rfl)) (fun _ _ _ _ _ => pts_nil) (fun _ _ _ _ _ => pe_tup (pa_cons pe_int (pa_cons (pe_ix iz_ix (pv 3) pe_int (fun _ _ => rfl)) pa_nil)))) (pss_cons (ps_set (i := 9) sc_l_bend.nd rfl (by first | exact Or.inl rfl | exact Or.inr rfl) (pe_ix iz_ix (pe_lst (pa_cons (pe_callB cz_lenS rfl T.n_len (by decide +kernel) (pa_cons (pv 1) pa_nil)) (pa_cons (pe_un oz_neg pe_int) (pa_cons (pe_op oz_add (pe_op oz_pow pe_int pe_int) (pe_call (ok_l_take T) (hr.mono (by decide)) rfl T.g__law_take T.F_l_take.kp (bi_l_take T) .nil passL (pa_cons (pv 0) (pa_cons (pe_op oz_pow pe_int pe_int) pa_nil)))) (pa_cons (pe_un oz_neg pe_int) pa_nil))))) (pe_call (ok_l_take T) (hr.mono (by decide)) rfl T.g__law_take T.F_l_take.kp (bi_l_take T) .nil passL (pa_cons (pv 0) (pa_cons pe_int pa_nil))) (fun _ _ => rfl))) (pss_cons (ps_if (pt_cmpR (oz_eq (hu64 hr)) (pv 5) pe_int (nomark _)) (pss_one (ps_asg (pe_slice sz_sl (pv 7) (po_some pe_int) po_none) (pg_sub (pv 1) (pv 4) set_list))) pss_nil) (pss_cons (ps_if (pt_cmpR (oz_eq (hu64 hr)) (pv 5) pe_int (nomark _)) (pss_one (ps_asg (pe_op oz_add (pv 7) (pe_lst (pa_cons pe_non pa_nil))) (pg_sub (pv 1) (pv 4) set_list))) pss_nil) (pss_cons (ps_if (pt_cmpR (oz_eq (hu64 hr)) (pv 5) pe_int (nomark _)) (pss_one (ps_asg (pe_op oz_add (pe_op oz_add (pe_slice sz_sl (pv 7) po_none (po_some (pv 6))) (pe_lst (pa_cons (pe_tup (pa_cons (pv 9) (pa_cons (pe_sv (by decide +kernel)) pa_nil))) pa_nil))) (pe_slice sz_sl (pv 7) (po_some (pe_op oz_add (pv 6) pe_int)) po_none)) (pg_sub (pv 1) (pv 4) set_list))) pss_nil) (pss_cons (ps_if (pt_cmpR (oz_eq (hu64 hr)) (pv 5) pe_int (nomark _)) (pss_one (ps_asg (pe_op oz_add (pe_op oz_add (pe_slice sz_sl (pv 7) po_none (po_some (pv 6))) (pe_lst (pa_cons (pe_tup (pa_cons pe_int (pa_cons (pe_op oz_add (pv 3) (pe_sv (by decide +kernel))) pa_nil))) pa_nil))) (pe_slice sz_sl (pv 7) (po_some (pe_op oz_add (pv 6) pe_int)) po_none)) (pg_sub (pv 1) (pv 4) set_list))) pss_nil) (pss_cons (ps_if (pt_cmpR (oz_eq (hu64 hr)) (pv 5) pe_int (nomark _)) (pss_one (ps_asg (pe_sv (by decide +kernel)) (pg_sub (pv 2) (pv 4) set_list))) pss_nil) (pss_one (ps_if (pt_cmpR (oz_eq (hu64 hr)) (pv 5) pe_int (nomark _)) (pss_one (ps_asg (pe_op oz_add (pe_ix iz_ix (pv 3) pe_int (fun _ _ => rfl)) (pe_sv (by decide +kernel))) (pg_sub (pv 2) (pv 4) set_list))) pss_nil))))))))))
theorem sc_law : FnScope N_law ["_law_script"] (defScope st_law) := ⟨rfl, rfl, rfl, by decide +kernel, rfl, by decide +kernel, by decide +kernel⟩
theorem ok_law (T : Facts K mg) : FnOk P w K mg base CX0 7 (fAd K ("law", none)) (fdOf K ("law", none)) ["_law_script"] (sp_law K) := by
  refine T.F_law.ok sc_law (fun vs H Q E h => len_law vs H Q E h) (fun cdv A outer s H vs Q E hr h => ⟨t_law P w K, PSs.nox ?_, pure_law T vs H Q E h⟩)
  exact pss_cons (ps_set (i := 1) sc_law.nd rfl (by first | exact Or.inl rfl | exact Or.inr rfl) (pe_call (ok_l_bag T) (hr.mono (by decide)) rfl T.g__law_bag T.F_l_bag.kp (bi_l_bag T) .nil passL (pa_cons (pv 0) pa_nil))) (pss_cons (ps_set (i := 2) sc_law.nd rfl (by first | exact Or.inl rfl | exact Or.inr rfl) (pe_call (ok_l_letters T) (hr.mono (by decide)) rfl T.g__law_letters T.F_l_letters.kp (bi_l_letters T) .nil passL (pa_cons (pv 1) (pa_cons pe_int pa_nil)))) (pss_cons (ps_set (i := 3) sc_law.nd rfl (by first | exact Or.inl rfl | exact Or.inr rfl) (pe_make T.mk_Alphabet (ok_Alphabet_init T) (hr.mono (by decide)) rfl T.g_Alphabet (bi_Alphabet_init T) .nil passL (pa_cons (pv 2) (pa_cons (pe_call (ok_l_vowels T) (hr.mono (by decide)) rfl T.g__law_vowels T.F_l_vowels.kp (bi_l_vowels T) .nil passL (pa_cons (pv 1) (pa_cons (pv 2) pa_nil))) pa_nil)))) (pss_cons (ps_set (i := 4) sc_law.nd rfl (by first | exact Or.inl rfl | exact Or.inr rfl) (pe_call (ok_l_table T) (hr.mono (by decide)) rfl T.g__law_table T.F_l_table.kp (bi_l_table T) .nil passL (pa_cons (pv 1) (pa_cons (pe_op oz_add (pe_sv (by decide +kernel)) (pv 2)) (pa_cons pe_int pa_nil))))) (pss_cons (ps_set (i := 5) sc_law.nd rfl (by first | exact Or.inl rfl | exact Or.inr rfl) (pe_ix iz_ix (pv 4) pe_int (fun _ _ => rfl))) (pss_cons (ps_set (i := 6) sc_law.nd rfl (by first | exact Or.inl rfl | exact Or.inr rfl) (pe_ix iz_ix (pv 4) pe_int (fun _ _ => rfl))) (pss_cons (ps_set (i := 7) sc_law.nd rfl (by first | exact Or.inl rfl | exact Or.inr rfl) (pe_ix iz_ix (pv 4) pe_int (fun _ _ => rfl))) (pss_cons (ps_if (pt_cmpR oz_isnot (pe_call (ok_l_told T) (hr.mono (by decide)) rfl T.g__law_told T.F_l_told.kp (bi_l_told T) .nil passL (pa_cons (pv 3) (pa_cons (pv 5) (pa_cons (pv 6) (pa_cons (pv 7) pa_nil))))) pe_non (nomark _)) (pss_one (ps_ret pe_bl)) pss_nil) (pss_cons (ps_set (i := 8) sc_law.nd rfl (by first | exact Or.inl rfl | exact Or.inr rfl) pe_non) (pss_cons (ps_for PassesOwn.never rfl (pi_range1 rfl T.n_range (pa_cons (pe_call (ok_l_take T) (hr.mono (by decide)) rfl T.g__law_take T.F_l_take.kp (bi_l_take T) .nil passL (pa_cons (pv 1) (pa_cons pe_int pa_nil))) pa_nil)) (pg_name (i := 9) sc_law.nd rfl (by first | exact Or.inl rfl | exact Or.inr rfl)) (pss_cons (ps_set (i := 10) sc_law.nd rfl (by first | exact Or.inl rfl | exact Or.inr rfl) (pe_call (ok_l_take T) (hr.mono (by decide)) rfl T.g__law_take T.F_l_take.kp (bi_l_take T) .nil passL (pa_cons (pv 1) (pa_cons (pe_callB cz_lenS rfl T.n_len (by decide +kernel) (pa_cons (pv 6) pa_nil)) pa_nil)))) (pss_cons (ps_expr (pe_call (ok_l_bend T) (hr.mono (by decide)) rfl T.g__law_bend T.F_l_bend.kp (bi_l_bend T) .nil passL (pa_cons (pv 1) (pa_cons (pv 6) (pa_cons (pv 7) (pa_cons (pe_op oz_add (pe_sv (by decide +kernel)) (pv 2)) (pa_cons (pv 10) pa_nil))))))) (pss_one (ps_set (i := 8) sc_law.nd rfl (by first | exact Or.inl rfl | exact Or.inr rfl) (pe_ifExp (pt_cmpR oz_is (pv 8) pe_non (nomark _)) (pv 10) (pe_callB (cz_min2 rfl) rfl T.n_min (by decide +kernel) (pa_cons (pv 8) (pa_cons (pv 10) pa_nil))))))))) (pss_cons (ps_set (i := 11) sc_law.nd rfl (by first | exact Or.inl rfl | exact Or.inr rfl) (pe_call (ok_l_take T) (hr.mono (by decide)) rfl T.g__law_take T.F_l_take.kp (bi_l_take T) .nil passL (pa_cons (pv 1) (pa_cons pe_int pa_nil)))) (pss_cons (ps_if (pt_cmpR (oz_eq (hu64 hr)) (pv 11) pe_int (nomark _)) (pss_one (ps_set (i := 7) sc_law.nd rfl (by first | exact Or.inl rfl | exact Or.inr rfl) (pe_slice sz_sl (pv 7) (po_some pe_int) po_none))) pss_nil) (pss_cons (ps_if (pt_cmpR (oz_eq (hu64 hr)) (pv 11) pe_int (nomark _)) (pss_one (ps_expr (pe_bm PySem.F.plainAttrs_list PySem.F.slot_list_append PySem.F.type_list_append mz_app (pv 7) (pa_cons (pe_sv (by decide +kernel)) pa_nil)))) pss_nil) (pss_cons (ps_if (pt_cmpR (oz_eq (hu64 hr)) (pv 11) pe_int (nomark _)) (pss_one (ps_set (i := 5) sc_law.nd rfl (by first | exact Or.inl rfl | exact Or.inr rfl) (pe_op oz_add (pv 5) (pe_sv (by decide +kernel))))) pss_nil) (pss_cons (ps_if (pt_cmpR (oz_eq (hu64 hr)) (pv 11) pe_int (nomark _)) (pss_one (ps_set (i := 6) sc_law.nd rfl (by first | exact Or.inl rfl | exact Or.inr rfl) (pe_lst pa_nil))) pss_nil) (pss_cons (ps_if (pt_cmpR oz_lt (pv 11) pe_int (nomark _)) (pss_one (ps_set (i := 8) sc_law.nd rfl (by first | exact Or.inl rfl | exact Or.inr rfl) (pe_un oz_neg pe_int))) pss_nil) (pss_cons (ps_setLc (i := 12) (own := [("_law_row", 13)]) (g := (gName 13)) (tt := tYes) rfl sc_law.nd rfl rfl (sw_true rfl rfl rfl (by decide +kernel)) (pi_list (pv 6)) (blkOk_by (N := N_law) (sc := defScope st_law) (by decide +kernel)) (fun _ _ _ _ _ => pg_name (i := 13) sc_law.nd rfl (by first | exact Or.inl rfl | exact Or.inr rfl)) (fun _ _ _ _ _ => pts_nil) (fun _ _ _ _ _ => pe_callTy (cz_listT rfl) rfl T.n_list (by decide +kernel) (pa_cons (pv 13) pa_nil))) (pss_cons (ps_set (i := 14) sc_law.nd rfl (by first | exact Or.inl rfl | exact Or.inr rfl) (pe_call (ok_l_told T) (hr.mono (by decide)) rfl T.g__law_told T.F_l_told.kp (bi_l_told T) .nil passL (pa_cons (pv 3) (pa_cons (pv 5) (pa_cons (pv 6) (pa_cons (pv 7) pa_nil)))))) (pss_cons (ps_if (PW.pt (pw_or (pt_cmpR (oz_ne (hu64 hr)) (pv 14) (pv 8) (nomark _)) (pw_or1 (PW.pt (pw_and (pt_cmpR oz_isnot (pv 14) pe_non (nomark _)) (pw_and1 (pt_not (pt_truth (pe_call (ok_l_is_integer T) (hr.mono (by decide)) rfl T.g__law_is_integer T.F_l_is_integer.kp (bi_l_is_integer T) .nil passL (pa_cons (pv 14) pa_nil)) (fun _ => rfl))))))))) (pss_one (ps_ret pe_bl)) pss_nil) (pss_cons (ps_if (PW.pt (pw_and (pt_cmpR oz_isnot (pv 8) pe_non (nomark _)) (pw_and1 (pt_not (pt_truth (pe_call (ok_l_kinds T) (hr.mono (by decide)) rfl T.g__law_kinds T.F_l_kinds.kp (bi_l_kinds T) .nil passL (pa_cons (pv 3) (pa_cons (pv 5) (pa_cons (pv 6) (pa_cons (pv 7) pa_nil))))) (fun _ => rfl)))))) (pss_one (ps_ret pe_bl)) pss_nil) (pss_one (ps_ret (pe_and (pe_cmpR (oz_eq (hu64 hr)) (pe_call (ok_l_told T) (hr.mono (by decide)) rfl T.g__law_told T.F_l_told.kp (bi_l_told T) .nil passL (pa_cons (pv 3) (pa_cons (pe_sv (by decide +kernel)) (pa_cons (pe_lst pa_nil) (pa_cons (pe_lst pa_nil) pa_nil))))) (pe_un oz_neg pe_int) (nomark _)) (pe_one (pe_cmpR (oz_eq (hu64 hr)) (pv 6) (pv 12) (nomark _)))))))))))))))))))))))))
end
end Cl.Kl
namespace Cl.Kl
open PySem PySem.Spec PyProof.Rows L2 He
theorem law_ok {w : World} {K : PySem.W.Frag} {h : Heap} {mg : Str → Option Value} {f : Addr} (X : K.In h) (G : h.Ns mainGlobals mg) (hfa : mg ("law" : Str) = some (.ref f)) (c : SaysS fa fnd fns [] ex w K) :
    ∃ fd : FuncData, (∀ (s : Shared) (v : Value), BindsTo s fd ⟨[v], []⟩ [("_law_script", v)]) ∧ ∀ base : Heap, K.In base → base.Ns mainGlobals mg → FnOk PP w K mg base CX0 7 f fd ["_law_script"] (sp_law K) := by
  have T := facts_of X G c
  have e := hfa.symm.trans T.g_law
  cases e
  have b := FunD.bindsA (ps := ["_law_script"]) T.F_law fun _ _ _ _ _ _ us hl => match us, hl with | [_], _ => rfl
  exact ⟨_, fun s v => b s [v] rfl, fun base _ _ => ok_law T⟩
end Cl.Kl
open PySem PySem.W PySem.Calls PyProof.Rows
set_option maxHeartbeats 0 in
theorem PySem.Challenge.cw_cliplore_k28_machine_tables_refused_holds : PySem.Challenge.rw_cliplore_k28_machine_tables_refused.Holds := by
  w_on; o_law
  refine HandSHeadRun.head_any (r := OpenLaw.row PySem.Challenge.rw_cliplore_k28_machine_tables_refused) (q := view (OpenLaw.row PySem.Challenge.rw_cliplore_k28_machine_tables_refused).prog [24]) (H := Cl.Kl.hk) (ob := Cl.Kl.ob) (M := 6000) (loose := Cl.Kl.loose) (d := HandSHeadRun.topDef (OpenLaw.row PySem.Challenge.rw_cliplore_k28_machine_tables_refused).prog 24) (kwd := []) Cl.Kl.ob_eq
    (by kernel_rfl) (fun s => by kernel_rfl) Cl.Kl.run (by kernel_rfl) (by kernel_rfl) (by kernel_rfl) (by rfl) (by first | assumption | decide +kernel) (by decide +kernel) ⟨rfl, rfl, rfl, rfl, rfl, by decide +kernel⟩ ?hw ?hc
  case hw => w_witness2
  case hc =>
    refine L2.walk_ofE (l := PySem.Challenge.rw_cliplore_k28_machine_tables_refused) (n := 63) (k := 7) (x := "_law_script") (CX := L2.CX0) rfl (by decide) (by kernel_rfl) ⟨rfl, by decide, by decide⟩ ?F (fun _ _ _ _ z => z)
    intro w mg f h Y G hmg0
    obtain ⟨K, KX, c⟩ := Y
    have hmg : mg ("law" : PySem.Str) = some (.ref f) := by
      have e : (HandSHeadRun.topDef (OpenLaw.row PySem.Challenge.rw_cliplore_k28_machine_tables_refused).prog 24).name = ("law" : PySem.Str) := by kernel_rfl
      rw [← e]
      exact hmg0
    obtain ⟨fd, hb, hF⟩ := Cl.Kl.law_ok (w := w) KX G hmg c
    exact ⟨K, fd, Cl.Kl.sp_law K, KX, hb, fun H a ns hl _ hS => Cl.Kl.sp_law_of hl hS fun _ => rfl, hF⟩
