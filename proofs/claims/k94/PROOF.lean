import PyProof.Rows.All
import Wide.All
import OpenK.AllK
import Wide.FinOn
import KE.KExcIs
import HandS.ForMost
import HandS.ForExc
import HandS.ExcInit
import HandS.ExcField
import HandS.ExcIs
import HandS.ExcValue
import HandS.IsInst
import HandS.ClsMeth
import HandS.Defaults
import HandS.Steps
import HandS.Style
import HandS.Wide
import PyProof.ListStr
import HandS.Head0
import HandS.Head1
import HandS.Head2
import HandS.HeadEnd
import HandS.HeadHook4
import PyProof.CollectStr
import PyProof.StrWalks
import PyProof.Rows.SetFrom
import PyProof.Rows.SortStr
import HandS.SetKeys
import HandS.More
import HandS.Set
import HandS.SetTxt0
import HandS.Strs
import PyProof.Rows.StrRev
import HandS.ReplaceList
import HandS.Walk
import HandS.Codes
import HandS.OwnEq
import HandS.Dict
import KE.KSuper
import HandS.Star
import HandS.FStr
import HandS.MakeKwOnly
import HandS.HeadNt
import HandS.Conv
import HandS.Deep
import HandS.HeadHook3
import HandS.Zip
import HandS.SetBool
import KE.KCallOwn
import HandS.RaiseMore
import PyProof.StrLawsRepr
import KE.KDictKeyed
import KE.KDictDisplayH
import HandS.TupLen
import PyProof.Rows.Range3
import KE.KxField
import HandS.StrMore
import PyProof.FString3
import HandS.TryOnly
import HandS.Replace
import PyProof.StrLawsIn
import PyProof.RulesMatch
import HandS.TupSets
import HandS.Records
import KE.DataCmp
import KE.SortData
import KE.DataMinMax
import KE.KDictWalk
import HandS.MakeKw
import PySem.Challenge.RW_cliplore_k94_lots_at_the_very_bound
set_option Elab.async false
set_option linter.all false
set_option maxRecDepth 100000
set_option maxHeartbeats 4000000
def Qa := @List.getElem?_eq_some_iff
def Qb := @List.length_map
def Qc := @List.length_append
def Qe := @List.length_cons
def Qf := @List.getElem?_eq_getElem
def Qg := @List.mem_cons
def Qh := @List.mem_cons_of_mem
def Qi := @List.getD_eq_getElem?_getD
def Qj := @List.getElem?_concat_length
def Qk := @List.map_map
def Ql := @List.getElem?_map
def Qm := @List.length_nil
def Qn := @List.not_mem_nil
def Qo := @List.length_reverse
def Qp := @List.mem_cons_self
def Qq := @List.mem_singleton
def Qr := @List.mem_of_getElem?
def Qs := @List.mem_map
def Qt := @List.getElem?_set_self
def Qu := @List.drop_eq_getElem_cons
def Qv := @List.append_nil
def Qw := @List.length_take
def Qx := @Option.some.inj
def Qy := @List.set_set
def Qz := @Nat.le_refl
def Q0 := @List.getElem?_append_left
def Q1 := @List.map_append
def Q2 := @List.mem_append
def Q3 := @List.getElem?_set_ne
def Q4 := @Nat.zero_le
def Q5 := @List.mem_of_mem_take
def Q6 := @List.all_eq_true
def Q7 := @List.lookup_cons
def Q8 := @List.take_length
def Q9 := @List.mem_flatMap
def Ha := @List.map_cons
def Hb := @Nat.le_trans
def Hc := @List.getElem?_take_of_lt
def Hd := @List.nodup_cons
def Hf := @List.getElem?_cons_succ
def Hg := @List.getElem?_cons_zero
def Hh := @List.prefix_refl
def Hi := @List.append_assoc
def Hj := @List.getElem?_eq_none
def Hk := @List.set_cons_succ
def Hl := @List.take_sublist
def Hm := @Bool.eq_iff_iff
def Hn := @List.map_take
def Ho := @List.getElem?_append_right
def Hq := @List.set_cons_zero
def Hr := @List.getElem?_of_mem
def Hs := @List.cons.inj
def Ht := @List.drop_length
def Hu := @List.mem_range
def Hv := @List.nodup_append
def Hw := @List.take_add_one
def Hx := @List.length_range
def Hy := @List.flatMap_cons
def Hz := @Bool.and_eq_true_iff
def H5 := @List.getElem_mem
def H6 := @Bool.and_eq_true
def H7 := @List.map_flatMap
def H8 := @List.flatMap_nil
def H9 := @Array.length_toList
def Ga := @List.length_eq_zero_iff
def Gb := @List.nil_prefix
def Ge := @List.drop_of_length_le
def Gf := @List.pairwise_map
def Gg := @Int.toNat_natCast
def Gh := @List.nodup_nil
def Gi := @List.length_singleton
def Gj := @List.take_append_drop
def Gk := @List.replicate_succ
def Gm := @List.take_left'
def Gn := @Nat.min_eq_left
def Gp := @List.prefix_rfl
def Gq := @Nat.ne_of_lt
def Gr := @List.pairwise_cons
def Gs := @Nat.lt_or_ge
def Gu := @Option.toList_some
def Gv := @Bool.false_bne
def Gx := @List.reverse_cons
def Gy := @List.drop_eq_nil_of_le
def Gz := @List.filter_eq_nil_iff
def G0 := @List.find?_cons_of_neg
def G3 := @List.sum_replicate_nat
def G4 := @Bool.true_bne
def G5 := @List.all_cons
def G6 := @List.sum_cons
def G7 := @List.mem_append_right
def G8 := @Array.toArray_toList
def G9 := @List.mem_iff_getElem
def La := @List.perm_cons_erase
def Lb := @List.mem_erase_of_ne
def Lc := @List.idxOf_cons_self
def Le := @List.drop_eq_nil_iff
def Lf := @List.length_set
def Lg := @List.nil_append
def Lh := @List.length_pos_iff
def Li := @List.length_flatMap
def Lj := @List.zip_cons_cons
def Lk := @Bool.false_ne_true
def Ll := @List.filter_append
def Lm := @List.flatten_cons
def Ln := @List.Pairwise.map
def Lo := @List.Perm.eq_of_pairwise
def Lp := @List.idxOf_lt_length_iff
def Lq := @List.map_nil
def Lr := @List.any_eq_true
def Ls := @Nat.le_add_right
def Lu := @Nat.zero_add
def Lv := @List.cons_ne_nil
def Lw := @List.pairwise_singleton
def Lx := @List.getElem?_replicate
def Ly := @Nat.add_sub_cancel_left
def Lz := @List.foldl_cons
def L0 := @List.map_const'
def L1 := @List.length_eq_one_iff
def L3 := @List.take_of_length_le
def L4 := @List.map_id
def L5 := @Array.getElem?_toList
def L6 := @List.Perm.refl
def L7 := @List.length_filter_le
def L8 := @List.set_append_right
def L9 := @List.drop_zero
def Ta := @List.map_drop
def Tb := @List.set_comm
def Tc := @Nat.le_of_lt
def Td := @Nat.succ_mul
namespace Cl
open PySem PySem.Spec PyProof.Rows L2
structure XCls (K : PySem.W.Frag) (C : Addr) : Prop where
 o : OexC K C
 f : XfC K C
 cl : (PySem.W.clsIn K C).isSome = true
 kl : PySem.W.findIn K (.ref C) "__class__" = some (some (.builtin "object.__class__"))
 sg : PySem.W.specialIn K (.builtin "object.__class__") "__get__" = some (some (.builtin "getset_descriptor.__get__"))
 tk : PySem.W.takesIn K (.builtin "object.__class__") = some true
 mo : PySem.W.mroIn K C (.type "object") = some true
section
variable {X : Cx} {e : Expr} {es : List Expr} {te : TE} {ta : TA} {f x : Str} {p p1 p2 pos : Pos}
theorem Zhm {B : Addr} {pl : Sem Bool} (hg : Gl X x) (hm : X.mg x = some (.ref B)) (hs : PySem.W.specialIn X.K (.ref B) "__getattribute__" = some (some (.builtin "type.__getattribute__"))) (ht : PySem.W.typeIn X.K (.ref B) = some (.type "type")) (hr : PySem.W.readsIn X.K B (.type "type") = true)
  (hv : PySem.W.findCls X.K (.ref B) (.type "type") "__init__" = some (.val (.builtin "ValueError.__init__"))) (ha : PA X (e :: es) ta)
  (hc : eval (.Call (.Attribute (.Name x p1) "__init__" p2) (e :: es) [] pos) X.env = (do
   let ov ← eval (.Name x p1) X.env
   standAt p2.atName
   let (f, first) ← holding [ov] (getMethod ov "__init__" pl)
   callWith pos f first (backTo pos (starEach (e :: es) X.env)) (backToKw pos (keywordEach [] X.env))) := by rfl)
  (hd : (x == ("__debug__" : Str)) = false := by decide)
  (he : starEach (e :: es) X.env = (false, eval e X.env) :: starEach es X.env := by rfl) (hq : (backTo pos (starEach es X.env)).any (·.1) = false := by rfl) :
  PE X (.Call (.Attribute (.Name x p1) "__init__" p2) (e :: es) [] pos) (tVeI X.K ta) := by
 constructor
 intro pins s σ H Q I h
 refine PySem.W.methodCall_KW (ld_glob I hg hm ?_ hd) hc
 obtain ⟨m, fr⟩ := I.fr
 refine PySem.W.method_of_cls fr I.ok.mod.kin hs (PySem.W.cls_val fr I.ok.mod.kin ht hr hv (by decide +kernel) ?_)
 refine PyProof.Rows.callWith_method1 (thn (ha.run pos pins _ σ H _ (I.tok _) h) ?_) he hq
 rintro us s1 ⟨vs, H1, I1, r1, a, C, ws, ev, hl, T, ea, q⟩
 subst ev
 cases r1 with
 | @cons _ u0 _ ur ra rr =>
  obtain rfl : u0 = Value.ref a := ra
  refine oinit_ok T I1 ea ?_ (fun s' J => ⟨.non, H1, J, rfl, q⟩)
  rw [← Paired.length rr, sizeLine_eq]
  omega
def XAt (H : Hp) (a C : Addr) : Prop := H a = some (ExO (.ref C) a) ∨ ∃ d fs, H a = some (exo a C (some d)) ∧ H d = some (exd d fs)
def rIsX (K : PySem.W.Frag) : List V → Hp → VK → Prop := fun xs H Q => ∃ (a C : Addr) (c : V) (u : Value) (b : Bool), xs = [.ref a, c] ∧ ClsV c u ∧ XCls K C ∧ XAt H a C ∧ PySem.W.kitOne K (.ref C) u = some b ∧ Q (.bl b) H
theorem Zyl : CallR X (.builtin "isinstance") (rIsX X.K) := by
 intro pins s σ H xs us Q I r h
 obtain ⟨a, C, c, u, b, rfl, k, T, hX, hk, q⟩ := h
 obtain ⟨u1, u2, rfl, r1, r2⟩ := vals2 r
 obtain rfl := k.eq r2
 obtain rfl : u1 = Value.ref a := r1
 have J : ∃ ox od, PySem.W.InstAt s.heap a ox C od := by
  rcases hX with h | ⟨d, fs, h1, h2⟩
  ·obtain ⟨⟨oe, vs, ho, hz, hd, _⟩, _⟩ := I.hok a _ h
   refine ⟨oe, none, ho, hz.1, ?_, ?_⟩
   ·unfold PySem.W.notCls
    rw [hd]
   ·rw [hz.2]
    trivial
  ·obtain ⟨t1, ho⟩ := exo_at I.hok h1
   obtain ⟨mA, hns, _⟩ := exd_at I.hok h2
   obtain ⟨od, hod, _⟩ := lookIn_ns hns
   exact ⟨_, some od, ho, rfl, rfl, hod⟩
 obtain ⟨ox, od, J⟩ := J
 exact PySem.W.kia_one (PySem.W.kitx_exc T.cl T.f.ga T.f.gg T.f.exC T.kl T.sg T.tk T.mo) I.kIn J hk (fun z => nomatch z) fun tk => ⟨.bl b, H, I.tok tk, rfl, q⟩
def tXfv (K : PySem.W.Frag) (f : Str) (te : TE) : TE := fun σ H Q => te σ H fun x H1 => ∃ (a C d : Addr) (fs : List (Str × V)) (v : V), x = .ref a ∧ XfC K C ∧ PySem.W.findIn K (.ref C) f = some none ∧ H1 a = some (exo a C (some d)) ∧ H1 d = some (exd d fs) ∧ fs.lookup f = some v ∧ Q v H1
end
abbrev S (l : List Nat) : Str := ⟨⟨l⟩⟩
abbrev sv (l : List Nat) : V := .str ⟨⟨l⟩⟩
theorem Z29 (a b : List Nat) : S a ++ S b = S (a ++ b) := by
 show (⟨(⟨a⟩ : Array Nat) ++ ⟨b⟩⟩ : Str) = _
 simp
theorem S_len (a : List Nat) : (S a).length = a.length := rfl
def rep (a : List Nat) (k : Nat) : List Nat := (List.replicate k a).flatten
def cut {α : Type} (z : List α) (lo hi : Option Int) : List α := (z.drop (HT.sIx z.length 0 lo)).take (HT.sIx z.length z.length hi - HT.sIx z.length 0 lo)
section
variable {X : Cx} {p pos : Pos}
theorem Zj0 {x : Str} {l : List Nat} {j : Nat} (h : x = S l) : PE X (.Constant (.str x) j pos) (tC (sv l)) := by
 subst h
 exact pe_str
def zAdd : R2 := fun x y H Q => match x, y with
 | .int i, .int j => Q (.int (i + j)) H
 | .str ⟨⟨a⟩⟩, .str ⟨⟨b⟩⟩ => a.length + b.length ≤ sizeLine ∧ Q (sv (a ++ b)) H
 | .ref l, .ref b => ∃ xs zs, H l = some (.lst xs) ∧ H b = some (.lst zs) ∧ xs.length + zs.length ≤ sizeLine ∧ ∀ p, H p = none → Q (.ref p) (upd H p (.lst (xs ++ zs)))
 | _, _ => False
theorem Zug : OpR X (binaryOp .Add) zAdd := by
 intro pins s σ H x y v u Q I rx ry h
 cases x with
 | int i =>
  cases y with
  | int j => exact op_add pins s σ H _ _ v u Q I rx ry ⟨i, j, rfl, rfl, h⟩
  | _ => exact (show False from h).elim
 | str a =>
  cases y with
  | str b =>
   obtain ⟨⟨a⟩⟩ := a
   obtain ⟨⟨b⟩⟩ := b
   obtain ⟨hz, q⟩ : a.length + b.length ≤ sizeLine ∧ Q (sv (a ++ b)) H := h
   exact op_add_str pins s σ H _ _ v u Q I rx ry ⟨_, _, rfl, rfl, hz, by rw [Z29]; exact q⟩
  | _ => exact (show False from h).elim
 | ref l =>
  cases y with
  | ref b =>
   obtain ⟨xs, zs, h1, h2, h3, q⟩ := h
   exact op_cat pins s σ H _ _ v u Q I rx ry ⟨l, b, xs, zs, rfl, rfl, h1, h2, h3, q⟩
  | _ => exact (show False from h).elim
 | _ => exact (show False from h).elim
def zSub : R2 := fun x y H Q => match x, y with
 | .int i, .int j => Q (.int (i - j)) H
 | _, _ => False
theorem Z1u (a : List Nat) (k : Int) : Txt.mul (S a) k = S (rep a k.toNat) := by
 unfold Txt.mul
 by_cases h1 : k < 1
 ·rw [if_pos h1]
  have : k.toNat = 0 := by omega
  rw [this]
  rfl
 ·rw [if_neg h1]
  split
  ·rename_i h
   rw [Bool.or_eq_true] at h
   rcases h with h | h
   ·have : k = 1 := by simpa using h
    subst this
    show S a = S (List.replicate 1 a).flatten
    simp
   ·have : a = [] := by
     have : a.length = 0 := by simpa [S_len] using h
     exact Ga.mp this
    subst this
    show S [] = S (List.replicate k.toNat []).flatten
    simp
  ·show (⟨(List.replicate k.toNat (⟨a⟩ : Array Nat)).foldl (· ++ ·) #[]⟩ : Str) = S (rep a k.toNat)
   have : ∀ (n : Nat) (b : List Nat), (List.replicate n (⟨a⟩ : Array Nat)).foldl (· ++ ·) (⟨b⟩ : Array Nat) = ⟨b ++ (List.replicate n a).flatten⟩ := by
    intro n
    induction n with
    | zero => intro b; simp
    | succ n ih =>
     intro b
     rw [Gk, Lz]
     have e : (⟨b⟩ : Array Nat) ++ ⟨a⟩ = ⟨b ++ a⟩ := by simp
     rw [e, ih, Gk, Lm, Hi]
   have e := this k.toNat []
   rw [show (#[] : Array Nat) = ⟨[]⟩ from rfl, e]
   rfl
def zMul : R2 := fun x y H Q => match x, y with
 | .int i, .int j => CMul i j ∧ Q (.int (i * j)) H
 | .str ⟨⟨a⟩⟩, .int k => 0 ≤ k ∧ k ≤ 100000 ∧ a.length ≤ 100 ∧ Q (sv (rep a k.toNat)) H
 | .ref l, .int k => ∃ xs, H l = some (.lst xs) ∧ -(2 ^ 63) ≤ k ∧ k < 2 ^ 63 ∧ xs.length * k.toNat ≤ sizeLine ∧ ∀ p, H p = none → Q (.ref p) (upd H p (.lst (List.replicate k.toNat xs).flatten))
 | _, _ => False
theorem Z4o : OpR X (binaryOp .Mult) zMul := by
 intro pins s σ H x y v u Q I rx ry h
 cases x with
 | int i =>
  cases y with
  | int j =>
   obtain ⟨hc, q⟩ := h
   exact op_mul pins s σ H _ _ v u Q I rx ry ⟨i, j, rfl, rfl, hc, q⟩
  | _ => exact (show False from h).elim
 | str a =>
  cases y with
  | int k =>
   obtain ⟨⟨a⟩⟩ := a
   obtain ⟨h0, h1, h2, q⟩ : 0 ≤ k ∧ k ≤ 100000 ∧ a.length ≤ 100 ∧ Q (sv (rep a k.toNat)) H := h
   obtain ⟨t, rfl⟩ := rx
   obtain ⟨t', rfl⟩ := ry
   have ok : MulOk (S a) k := by
    refine ⟨?_, fun h _ => ?_, fun h _ => ?_⟩
    ·simp only [Bool.or_eq_false_iff, decide_eq_false_iff_not]
     omega
    ·rw [S_len]
     have : (2 ^ 63 - 1 : Int) / 100000 ≤ (2 ^ 63 - 1) / k := by
      rw [Int.le_ediv_iff_mul_le (by omega)]
      have : (2 ^ 63 - 1 : Int) / 100000 * k ≤ (2 ^ 63 - 1 : Int) / 100000 * 100000 := Int.mul_le_mul_of_nonneg_left h1 (by decide)
      omega
     omega
    ·rw [S_len]
     have e : a.length * k.toNat ≤ 100 * 100000 := Nat.mul_le_mul h2 (by omega)
     unfold PySem.Builtin.Str.tooLong
     have := sizeLine_eq
     simp only [decide_eq_false_iff_not]
     omega
   refine SB.mul ok fun t' tk => ?_
   rw [Z1u]
   exact ⟨sv (rep a k.toNat), H, I.tok _, ⟨_, rfl⟩, q⟩
  | _ => exact (show False from h).elim
 | ref l =>
  cases y with
  | int k =>
   obtain ⟨xs, h1, h2, h3, h4, q⟩ := h
   exact op_rep pins s σ H _ _ v u Q I rx ry ⟨l, k, xs, rfl, rfl, h1, h2, h3, h4, q⟩
  | _ => exact (show False from h).elim
 | _ => exact (show False from h).elim
def zDiv : R2 := fun x y H Q => match x, y with
 | .int i, .int j => CDivW i j ∧ Q (.int (i / j)) H
 | _, _ => False
theorem Z4r : OpR X (binaryOp .FloorDiv) zDiv := by
 intro pins s σ H x y v u Q I rx ry h
 cases x with
 | int i =>
  cases y with
  | int j => exact op_fdivW pins s σ H _ _ v u Q I rx ry ⟨i, j, rfl, rfl, h.1, h.2⟩
  | _ => exact (show False from h).elim
 | _ => exact (show False from h).elim
def zMod : R2 := fun x y H Q => match x, y with
 | .int i, .int j => 0 < j ∧ Q (.int (i % j)) H
 | _, _ => False
theorem Z4p : OpR X (binaryOp .Mod) zMod := by
 intro pins s σ H x y v u Q I rx ry h
 cases x with
 | int i =>
  cases y with
  | int j => exact op_mod pins s σ H _ _ v u Q I rx ry ⟨i, j, rfl, rfl, h.1, h.2⟩
  | _ => exact (show False from h).elim
 | _ => exact (show False from h).elim
def zPow : R2 := fun x y H Q => match x, y with
 | .int i, .int j => CPow i j ∧ Q (.int (i ^ j.toNat)) H
 | _, _ => False
theorem Z4m : OpR X (binaryOp .Pow) zPow := by
 intro pins s σ H x y v u Q I rx ry h
 cases x with
 | int i =>
  cases y with
  | int j => exact op_pow pins s σ H _ _ v u Q I rx ry ⟨i, j, rfl, rfl, h.1, h.2⟩
  | _ => exact (show False from h).elim
 | _ => exact (show False from h).elim
def zLt : R2 := fun x y H Q => match x, y with
 | .int i, .int j => Q (.bl (decide (i < j))) H
 | _, _ => False
def zLe : R2 := fun x y H Q => match x, y with
 | .int i, .int j => Q (.bl (decide (i ≤ j))) H
 | _, _ => False
def zGt : R2 := fun x y H Q => match x, y with
 | .int i, .int j => Q (.bl (decide (j < i))) H
 | _, _ => False
def zGe : R2 := fun x y H Q => match x, y with
 | .int i, .int j => Q (.bl (decide (j ≤ i))) H
 | _, _ => False
theorem Z75 : OpR X (compareOp .Lt) zLt := by
 intro pins s σ H x y v u Q I rx ry h
 cases x with
 | int i =>
  cases y with
  | int j => exact op_lt pins s σ H _ _ v u Q I rx ry ⟨i, j, rfl, rfl, h⟩
  | _ => exact (show False from h).elim
 | _ => exact (show False from h).elim
theorem Z1o : OpR X (compareOp .LtE) zLe := by
 intro pins s σ H x y v u Q I rx ry h
 cases x with
 | int i =>
  cases y with
  | int j => exact op_le pins s σ H _ _ v u Q I rx ry ⟨i, j, rfl, rfl, h⟩
  | _ => exact (show False from h).elim
 | _ => exact (show False from h).elim
theorem Z4q : OpR X (compareOp .Gt) zGt := by
 intro pins s σ H x y v u Q I rx ry h
 cases x with
 | int i =>
  cases y with
  | int j => exact op_gt pins s σ H _ _ v u Q I rx ry ⟨i, j, rfl, rfl, h⟩
  | _ => exact (show False from h).elim
 | _ => exact (show False from h).elim
theorem Z78 : OpR X (compareOp .GtE) zGe := by
 intro pins s σ H x y v u Q I rx ry h
 cases x with
 | int i =>
  cases y with
  | int j => exact op_ge pins s σ H _ _ v u Q I rx ry ⟨i, j, rfl, rfl, h⟩
  | _ => exact (show False from h).elim
 | _ => exact (show False from h).elim
def eqB : V → V → Option Bool
 | .non, .non => some true
 | .non, .int _ | .int _, .non | .non, .bl _ | .bl _, .non | .non, .str _ | .str _, .non | .int _, .str _ | .str _, .int _ | .bl _, .str _ | .str _, .bl _ => some false
 | .int i, .int j => some (decide (i = j))
 | .bl i, .bl j => some (decide (i = j))
 | .str ⟨⟨a⟩⟩, .str ⟨⟨b⟩⟩ => some (decide (a = b))
 | _, _ => none
theorem Zrn {x y : V} {b : Bool} (h : eqB x y = some b) : scal x y = true ∧ decide (x = y) = b := by
 cases x <;> cases y <;> first
  | (refine ⟨rfl, ?_⟩; have := Qx h; subst this; simp; done)
  | (refine ⟨rfl, ?_⟩; have := Qx h; subst this; rw [Hm]; simp; done)
  | (rename_i a b; obtain ⟨⟨a⟩⟩ := a; obtain ⟨⟨b⟩⟩ := b; refine ⟨rfl, ?_⟩; have := Qx h; subst this; rw [Hm]; simp; done)
  | (cases h; done)
def zEq (K : PySem.W.Frag) : R2 := fun x y H Q => match eqB x y with
 | some b => Q (.bl b) H
 | none => ∃ d e, Dp K H x d ∧ Dp K H y e ∧ SeqAt.shaped d = true ∧ SeqAt.shaped e = true ∧ Q (.bl (PyData.eqv d e)) H
def zNe (K : PySem.W.Frag) : R2 := fun x y H Q => match eqB x y with
 | some b => Q (.bl (!b)) H
 | none => ∃ d e, Dp K H x d ∧ Dp K H y e ∧ SeqAt.shaped d = true ∧ SeqAt.shaped e = true ∧ Q (.bl (!PyData.eqv d e)) H
theorem Z79 (hu : X.A.units + 64 < cLine) : OpR X (compareOp .Eq) (zEq X.K) := by
 intro pins s σ H x y v u Q I rx ry h
 unfold zEq at h
 split at h
 ·rename_i b e
  obtain ⟨h1, h2⟩ := Zrn e
  exact op_eq pins s σ H _ _ v u Q I rx ry ⟨h1, by rw [h2]; exact h⟩
 ·exact op_eqD hu pins s σ H _ _ v u Q I rx ry h
theorem Z1n (hu : X.A.units + 64 < cLine) : OpR X (compareOp .NotEq) (zNe X.K) := by
 intro pins s σ H x y v u Q I rx ry h
 unfold zNe at h
 split at h
 ·rename_i b e
  obtain ⟨h1, h2⟩ := Zrn e
  exact op_ne pins s σ H _ _ v u Q I rx ry ⟨h1, by rw [h2]; exact h⟩
 ·exact op_neD hu pins s σ H _ _ v u Q I rx ry h
theorem hu64 {A : Around} {k : Nat} (hr : Room k A) : A.units + 64 < cLine := hr.units
def zIs : R2 := fun x y H Q => match x, y with
 | .bl a, .bl b => Q (.bl (decide (a = b))) H
 | x, .non => Q (.bl (decide (x = .non))) H
 | _, _ => False
def Zkd : R2 := fun x y H Q => match x, y with
 | .bl a, .bl b => Q (.bl (!decide (a = b))) H
 | x, .non => Q (.bl (!decide (x = .non))) H
 | _, _ => False
theorem Z76 : OpR X (compareOp .Is) zIs := by
 intro pins s σ H x y v u Q I rx ry h
 cases y with
 | non =>
  cases x <;> exact op_isN pins s σ H _ _ v u Q I rx ry ⟨rfl, h⟩
 | bl b =>
  cases x with
  | bl a => exact op_isBl pins s σ H _ _ v u Q I rx ry ⟨a, b, rfl, rfl, h⟩
  | _ => exact (show False from h).elim
 | _ => cases x <;> exact (show False from h).elim
theorem Zxi : OpR X (compareOp .IsNot) Zkd := by
 intro pins s σ H x y v u Q I rx ry h
 cases y with
 | non =>
  cases x <;> exact op_notN pins s σ H _ _ v u Q I rx ry ⟨rfl, h⟩
 | bl b =>
  cases x with
  | bl a => exact op_notBl pins s σ H _ _ v u Q I rx ry ⟨a, b, rfl, rfl, h⟩
  | _ => exact (show False from h).elim
 | _ => cases x <;> exact (show False from h).elim
def zIx (K : PySem.W.Frag) : R2 := fun x y H Q => match x, y with
 | .ref p, .int i => ∃ xs v, (SqL K H p xs ∨ SqT K H p xs) ∧ atI xs i = some v ∧ Q v H
 | .str ⟨⟨z⟩⟩, .int i => ∃ c, z.length ≤ sizeLine ∧ atI z i = some c ∧ Q (sv [c]) H
 | _, _ => False
theorem Zab : IxR X (zIx X.K) := by
 intro value slice pins s σ H x y v u Q I rx ry h hs
 cases x with
 | ref p =>
  cases y with
  | int i =>
   obtain ⟨xs, z, h1, h2, q⟩ := h
   rcases h1 with h1 | h1
   ·exact ix_list value slice pins s σ H _ _ v u Q I rx ry ⟨p, xs, i, z, rfl, rfl, h1, h2, q⟩ hs
   ·exact ix_tup value slice pins s σ H _ _ v u Q I rx ry ⟨p, xs, i, z, rfl, rfl, h1, h2, q⟩ hs
  | _ => exact (show False from h).elim
 | str z =>
  cases y with
  | int i =>
   obtain ⟨⟨z⟩⟩ := z
   obtain ⟨c, h1, h2, q⟩ : ∃ c, z.length ≤ sizeLine ∧ atI z i = some c ∧ Q (sv [c]) H := h
   exact ix_str value slice pins s σ H _ _ v u Q I rx ry ⟨S z, i, c, rfl, rfl, h1, h2, q⟩ hs
  | _ => exact (show False from h).elim
 | _ => exact (show False from h).elim
def zSl (K : PySem.W.Frag) : V → Option Int → Option Int → Hp → VK → Prop := fun x lo hi H Q => match x with
 | .str ⟨⟨z⟩⟩ => z.length ≤ sizeLine ∧ Q (sv (cut z lo hi)) H
 | .ref a => ∃ xs, SqL K H a xs ∧ ∀ p, H p = none → Q (.ref p) (upd H p (.lst (cut xs lo hi)))
 | _ => False
theorem Z67 : SlR X (zSl X.K) := by
 intro pins s σ H x v vl vu lo hi sl Q I rx hs pl pu h
 cases x with
 | str z =>
  obtain ⟨⟨z⟩⟩ := z
  obtain ⟨hz, q⟩ : z.length ≤ sizeLine ∧ Q (sv (cut z lo hi)) H := h
  exact sl_str pins s σ H _ v vl vu lo hi sl Q I rx hs pl pu ⟨S z, rfl, hz, q⟩
 | ref a =>
  obtain ⟨xs, h1, q⟩ := h
  exact sl_list pins s σ H _ v vl vu lo hi sl Q I rx hs pl pu ⟨a, xs, rfl, h1, q⟩
 | _ => exact (show False from h).elim
def zLen (K : PySem.W.Frag) : List V → Hp → VK → Prop := fun xs H Q => ∃ x n, xs = [x] ∧ LenV K x H n ∧ Q (.int n) H
theorem Z6q : CallR X (.builtin "len") (zLen X.K) := call_len
def zInt : List V → Hp → VK → Prop := fun xs H Q => match xs with
 | [.int i] => Q (.int i) H
 | _ => False
def zIsi (K : PySem.W.Frag) : List V → Hp → VK → Prop := fun xs H Q => rIsX K xs H Q ∨ rIsi K xs H Q
theorem Z6r : CallR X (.builtin "isinstance") (zIsi X.K) := CallR.or Zyl call_isi
end
end Cl
namespace Cl
open PySem PySem.Spec PyProof.Rows L2 He
def fdOf (K : PySem.W.Frag) (p : Str × Option Str) : FuncData := match K.lookup (fAd K p) with
 | some ⟨_, _, .func fd, _⟩ => fd
 | _ => default
theorem Z86 {K : PySem.W.Frag} {x q : Str} {a : Arguments} {b : List Stmt} {sc : Scope} {dvs : List V} {kws : List (Str × V)} {p : Str × Option Str} (h : ∃ fd, FunD K x q a b sc dvs kws (fAd K p) fd) : FunD K x q a b sc dvs kws (fAd K p) (fdOf K p) := by
 obtain ⟨fd, F⟩ := h
 have e : fdOf K p = fd := by
  obtain ⟨oc, od, dV, kV, doc, pm, an, cdv, ct, osl, rfl, lk, _⟩ := F.ex
  unfold fdOf
  rw [lk]
 rw [e]
 exact F
def oexB (K : PySem.W.Frag) (C : Addr) : Bool := match K.lookup C with
 | some ⟨.type "type", _, .cls cd, sl⟩ => (match cd.mro, sl.toList with
  | .ref D :: bm, [_, _, _, _, some (.builtin n), _] => decide (D = C) && (decide (n = "ValueError.__new__") && (!cd.hasDel && (cd.hasDict && PySem.HandSPX.refsVE bm)))
  | _, _ => false)
 | _ => false
theorem Z1r {K : PySem.W.Frag} {C : Addr} (h : oexB K C = true) : ∃ nm q N bs bm sn sub ab col dd k0 k1 k2 k3 k5, K.lookup C = some (excClassObj nm q C N bs bm true sn sub ab col dd k0 k1 k2 k3 k5 "ValueError.__new__") ∧ PySem.HandSPX.refsVE bm = true := by
 unfold oexB at h
 split at h
 ·rename_i dd cd sl ho
  split at h
  ·rename_i D bm k0 k1 k2 k3 n k5 hm hs
   obtain ⟨h1, h⟩ := ba h
   obtain ⟨h2, h⟩ := ba h
   obtain ⟨h3, h⟩ := ba h
   obtain ⟨h4, h5⟩ := ba h
   obtain rfl := of_decide_eq_true h1
   obtain rfl := of_decide_eq_true h2
   obtain ⟨nm, bs, mro, ns, qn, hd, sn, sub, ab, col, del⟩ := cd
   obtain ⟨l⟩ := sl
   dsimp only at hm hs h3 h4
   subst hm hs h4
   have hdel : del = false := by simpa using h3
   subst hdel
   exact ⟨nm, qn, ns, bs, bm, sn, sub, ab, col, dd, k0, k1, k2, k3, k5, ho, h5⟩
  ·cases h
 ·cases h
def Z3c (K : PySem.W.Frag) (C : Addr) : Bool := oexB K C && (decide (PySem.W.findIn K (.ref C) "__setattr__" = some (some (.builtin "object.__setattr__"))) && (decide (PySem.W.typeIn K (.ref C) = some (.type "type")) && (PySem.W.keepIn K (.ref C) &&
 (xfB K C && ((PySem.W.clsIn K C).isSome && (decide (PySem.W.findIn K (.ref C) "__class__" = some (some (.builtin "object.__class__"))) && (decide (PySem.W.specialIn K (.builtin "object.__class__") "__get__" = some (some (.builtin "getset_descriptor.__get__"))) &&
 (decide (PySem.W.takesIn K (.builtin "object.__class__") = some true) && decide (PySem.W.mroIn K C (.type "object") = some true)))))))))
theorem Zwu {K : PySem.W.Frag} {C : Addr} (h : Z3c K C = true) : XCls K C := by
 obtain ⟨h1, h⟩ := ba h
 obtain ⟨h2, h⟩ := ba h
 obtain ⟨h3, h⟩ := ba h
 obtain ⟨h4, h⟩ := ba h
 obtain ⟨h5, h⟩ := ba h
 obtain ⟨h6, h⟩ := ba h
 obtain ⟨h7, h⟩ := ba h
 obtain ⟨h8, h⟩ := ba h
 obtain ⟨h9, h10⟩ := ba h
 have f := xfB_ok h5
 exact ⟨⟨Z1r h1, of_decide_eq_true h2, f.exC, of_decide_eq_true h3, h4⟩, f, h6, of_decide_eq_true h7, of_decide_eq_true h8, of_decide_eq_true h9, of_decide_eq_true h10⟩
structure Z61 (K : PySem.W.Frag) (B : Addr) : Prop where
 s : PySem.W.specialIn K (.ref B) "__getattribute__" = some (some (.builtin "type.__getattribute__"))
 t : PySem.W.typeIn K (.ref B) = some (.type "type")
 r : PySem.W.readsIn K B (.type "type") = true
 v : PySem.W.findCls K (.ref B) (.type "type") "__init__" = some (.val (.builtin "ValueError.__init__"))
def Z0a (K : PySem.W.Frag) (B : Addr) : Bool := decide (PySem.W.specialIn K (.ref B) "__getattribute__" = some (some (.builtin "type.__getattribute__"))) && (decide (PySem.W.typeIn K (.ref B) = some (.type "type")) && (PySem.W.readsIn K B (.type "type") &&
 (match PySem.W.findCls K (.ref B) (.type "type") "__init__" with
  | some (.val (.builtin n)) => decide (n = "ValueError.__init__")
  | _ => false)))
theorem Zwf {K : PySem.W.Frag} {B : Addr} (h : Z0a K B = true) : Z61 K B := by
 obtain ⟨h1, h⟩ := ba h
 obtain ⟨h2, h⟩ := ba h
 obtain ⟨h3, h4⟩ := ba h
 refine ⟨of_decide_eq_true h1, of_decide_eq_true h2, h3, ?_⟩
 split at h4
 ·rename_i n e
  rw [e, of_decide_eq_true h4]
 ·cases h4
structure Z9i (fa : List Fa) (fn : List DefD) (ts : List Tab) (ex : PySem.W.Frag → Bool) (w : World) (K : PySem.W.Frag) : Prop where
 t : SaysT fa fn ts w K
 more : ex K = true
section
variable {t u : TS} {te ta tb : TE} {tt tu : TT} {tr : TA} {D : Ends} {σ σ' : L2.St} {H : Hp} {Q : VK} {QB : Bool → Hp → Prop} {QA : List V → Hp → Prop} {g : TG} {i : Nat} {v : V} {r : R2} {K : PySem.W.Frag} {xs : List V} {p : Addr}
theorem Z7f (h : t { D with nx := u D } σ H) : tSeq t u D σ H := h
theorem Z7u (h : te σ H fun x H1 => g x σ H1 D.nx) : tAsg te g D σ H := h
theorem Z7g (h : te σ H D.rt) : tRet te D σ H := h
theorem Z38 (h : te σ H fun _ H1 => D.nx σ H1) : tDrop te D σ H := h
theorem Z30 (h : D.nx σ H) : tNext D σ H := h
theorem s_if (h : tt σ H fun b H1 => if b = true then t D σ H1 else u D σ H1) : tIfS tt t u D σ H := h
theorem Z7b (e : σ[i]? = some (some v)) (h : Q v H) : tVar i σ H Q := ⟨v, e, h⟩
theorem s_c (h : Q v H) : tC v σ H Q := h
theorem s_op (h : ta σ H fun x H1 => tb σ H1 fun y H2 => r x y H2 Q) : tOp r ta tb σ H Q := h
theorem Z7j (h : QA [] H) : tNil σ H QA := h
theorem Z4b (h : te σ H fun x H1 => tr σ H1 fun xs H2 => QA (x :: xs) H2) : tCons te tr σ H QA := h
theorem s_cb {rr : List V → Hp → VK → Prop} (h : tr σ H fun vs H1 => rr vs H1 Q) : tCB rr tr σ H Q := h
theorem s_call {sp : Sp} {dvs : List V} {E : XK} (h : tr σ H fun vs H1 => sp (vs ++ dvs) H1 Q E) : tCall sp dvs E tr σ H Q := h
theorem Z3s (h : te σ H fun x H1 => ∃ k, x = .bl k ∧ QB k H1) : tTest te σ H QB := h
theorem s_bl {b : Bool} {QP : Bool → Prop} (h : QP b) : ∃ k, V.bl b = .bl k ∧ QP k := ⟨b, rfl, h⟩
theorem Z7i (h : tt σ H fun c H1 => QB (!c) H1) : tNot tt σ H QB := h
theorem Z7v (h : tt σ H fun c H1 => if c = true then tu σ H1 QB else QB false H1) : tAnd tt tu σ H QB := h
theorem s_or (h : tt σ H fun c H1 => if c = true then QB true H1 else tu σ H1 QB) : tOr tt tu σ H QB := h
theorem Z7p (h : tt σ H fun c H1 => if c = true then ta σ H1 Q else tb σ H1 Q) : tIf tt ta tb σ H Q := h
theorem Z31 {QS : L2.St → Hp → Prop} (h : QS (σ.set i (some v)) H) : gName i v σ H QS := h
theorem Z7e {to ti : TE} {ts : TSet} {QS : L2.St → Hp → Prop} (h : to σ H fun o H1 => ti σ H1 fun i H2 => ts o i v H2 fun H3 => QS σ H3) : gSub to ti ts v σ H QS := h
theorem s_sl {rr : V → Option Int → Option Int → Hp → VK → Prop} {tl th : TO} (h : te σ H fun x H1 => tl σ H1 fun l H2 => th σ H2 fun u H3 => rr x l u H3 Q) : tSl rr te tl th σ H Q := h
theorem Zxb {QO : Option Int → Hp → Prop} (h : QO none H) : tNoPart σ H QO := h
theorem Z3x {QO : Option Int → Hp → Prop} (h : te σ H fun x H1 => ∃ i, x = .int i ∧ QO (some i) H1) : tPart te σ H QO := h
theorem Z7o {QI : Int → Prop} {i : Int} (h : QI i) : ∃ k, V.int i = .int k ∧ QI k := ⟨i, rfl, h⟩
theorem Z7m (h : tr σ H fun xs H1 => xs.length ≤ sizeLine ∧ ∀ p, H1 p = none → Q (.ref p) (upd H1 p (.lst xs))) : tLst tr σ H Q := h
theorem Z7c (h : tr σ H fun xs H1 => xs.length ≤ sizeLine ∧ ∀ p, H1 p = none → Q (.ref p) (upd H1 p (.tup xs))) : tTup tr σ H Q := h
theorem s_bm {T : String} {rr : V → List V → Hp → VK → Prop} (h : te σ H fun x H1 => tyV K T x H1 ∧ tr σ H1 fun xs H2 => rr x xs H2 Q) : tBM K T rr te tr σ H Q := h
theorem Za3 {o : HO} (hp : H p = none) : Same H (upd H p o) := fun b u e => by
 rw [upd_ne (ne_of_none e hp)]
 exact e
end
section
variable {X : Cx}
def zApp : V → List V → Hp → VK → Prop := fun x vs H Q => match x, vs with
 | .ref l, [y] => ∃ xs, H l = some (.lst xs) ∧ xs.length < sizeLine ∧ Q .non (upd H l (.lst (xs ++ [y])))
 | _, _ => False
theorem Z4x : MtR X "list.append" zApp := by
 intro pins s σ H x vs v us Q I rx rv h
 match x, vs, h with
 | .ref l, [y], ⟨xs, h1, h2, q⟩ => exact mt_append pins s σ H _ _ v us Q I rx rv ⟨l, xs, y, rfl, rfl, h1, h2, q⟩
end
def tTru (K : PySem.W.Frag) (ta : TE) : TT := fun σ H Q => ta σ H fun x H' => ∃ k, TruV K x H' k ∧ Q k H'
theorem Zen {K : PySem.W.Frag} {H : Hp} {a : Addr} {xs : List V} (h : H a = some (.lst xs)) : SqL K H a xs := Or.inl (Or.inl h)
theorem Zfn {H : Hp} {p q : Addr} {o : HO} (h : upd H p o q = none) : H q = none ∧ q ≠ p := by
 by_cases e : q = p
 ·rw [e, upd_same] at h
  cases h
 ·rw [upd_ne e] at h
  exact ⟨h, e⟩
section
variable {H : Hp} {Q : VK} {K : PySem.W.Frag} {xs : List V} {v : V} {p : Addr} {i : Int} {n : Nat}
theorem Z4d {i j : Int} (h : Q (.int (i + j)) H) : zAdd (.int i) (.int j) H Q := h
theorem Z3t {i j : Int} (h : Q (.int (i - j)) H) : zSub (.int i) (.int j) H Q := h
theorem Z7l {i j : Int} (h : Q (.bl (decide (i < j))) H) : zLt (.int i) (.int j) H Q := h
theorem Z7n {i j : Int} (h : Q (.bl (decide (i ≤ j))) H) : zLe (.int i) (.int j) H Q := h
theorem Z7q {i j : Int} (h : Q (.bl (decide (j < i))) H) : zGt (.int i) (.int j) H Q := h
theorem Z7r {i j : Int} (h : Q (.bl (decide (j ≤ i))) H) : zGe (.int i) (.int j) H Q := h
theorem Z37 {i : Int} (h : Q (.int i) H) : zInt [.int i] H Q := h
theorem s_eq {x y : V} {b : Bool} (e : eqB x y = some b) (h : Q (.bl b) H) : zEq K x y H Q := by
 unfold zEq
 rw [e]
 exact h
theorem s_ne {x y : V} {b : Bool} (e : eqB x y = some b) (h : Q (.bl (!b)) H) : zNe K x y H Q := by
 unfold zNe
 rw [e]
 exact h
end
abbrev BagC (H : Hp) (b c : Addr) : Prop := ∃ (ns : List Int) (pos rest seed : Int), H b = some (.lst [.ref c, .int pos, .int rest, .int seed]) ∧ H c = some (.lst (ns.map V.int)) ∧ c ≠ b ∧ 0 ≤ pos
def Bag (H : Hp) (b : Addr) : Prop := ∃ c, BagC H b c
theorem BagC.same {H H' : Hp} {b c : Addr} (h : BagC H b c) (s : Same H H') : BagC H' b c := by
 obtain ⟨ns, pos, rest, seed, h1, h2, h3, h4⟩ := h
 exact ⟨ns, pos, rest, seed, s _ _ h1, s _ _ h2, h3, h4⟩
theorem BagC.ne {H : Hp} {b c D : Addr} (h : BagC H b c) (hD : H D = none) : D ≠ b ∧ D ≠ c := by
 obtain ⟨ns, pos, rest, seed, g1, g2, g3, g4⟩ := h
 exact ⟨(ne_of_none g1 hD).symm, (ne_of_none g2 hD).symm⟩
structure Bst (b : Addr) (H H' : Hp) : Prop where
 keep : ∀ a o, a ≠ b → H a = some o → H' a = some o
 bag : Bag H' b
 cell : ∀ c, BagC H b c → BagC H' b c
theorem Bag.some {H : Hp} {b : Addr} (h : Bag H b) : ∃ o, H b = some o := by
 obtain ⟨c, ns, pos, rest, seed, h, _⟩ := h
 exact ⟨_, h⟩
theorem Bst.refl {b : Addr} {H : Hp} (h : Bag H b) : Bst b H H := ⟨fun _ _ _ z => z, h, fun _ z => z⟩
theorem Bst.trans {b : Addr} {H H1 H2 : Hp} (a : Bst b H H1) (c : Bst b H1 H2) : Bst b H H2 := ⟨fun x o hx h => c.keep x o hx (a.keep x o hx h), c.bag, fun d z => c.cell d (a.cell d z)⟩
theorem Bst.fresh {b : Addr} {H H' : Hp} (a : Bst b H H') {p : Addr} (h : H' p = none) : H p = none := by
 cases e : H p with
 | none => rfl
 | some o =>
  by_cases hb : p = b
  ·obtain ⟨u, hu⟩ := a.bag.some
   rw [hb, hu] at h
   cases h
  ·rw [a.keep p o hb e] at h
   cases h
theorem Bag.same {H H' : Hp} {b : Addr} (h : Bag H b) (s : Same H H') : Bag H' b := by
 obtain ⟨c, ns, pos, rest, seed, h1, h2, h3, h4⟩ := h
 exact ⟨c, ns, pos, rest, seed, s _ _ h1, s _ _ h2, h3, h4⟩
def spX1 (C : Addr) (f : Str) : Sp := fun vs H Q _ => ∃ (a : Addr) (v : V), vs = [.ref a, v] ∧ H a = some (exo a C none) ∧ ∀ d, H d = none → d ≠ a → Q .non (upd (upd H d (exd d [(f, v)])) a (exo a C (some d)))
def spX2 (C : Addr) (f g : Str) : Sp := fun vs H Q _ => ∃ (a : Addr) (v u : V), vs = [.ref a, v, u] ∧ H a = some (exo a C none) ∧ ∀ d, H d = none → d ≠ a → Q .non (upd (upd (upd H d (exd d [(f, v)])) a (exo a C (some d))) d (exd d [(g, u), (f, v)]))
theorem Zu0 {C : Addr} {f : Str} (vs : List V) (H : Hp) (Q : VK) (E : XK) (h : spX1 C f vs H Q E) : vs.length = 2 := by
 obtain ⟨a, v, rfl, _⟩ := h
 rfl
theorem Z40 {C : Addr} {f g : Str} (vs : List V) (H : Hp) (Q : VK) (E : XK) (h : spX2 C f g vs H Q E) : vs.length = 3 := by
 obtain ⟨a, v, u, rfl, _⟩ := h
 rfl
def XF (H : Hp) (a C : Addr) (fs : List (Str × V)) : Prop := ∃ d, H a = some (exo a C (some d)) ∧ H d = some (exd d fs)
theorem XF.same {H H' : Hp} {a C : Addr} {fs : List (Str × V)} (h : XF H a C fs) (s : Same H H') : XF H' a C fs := by
 obtain ⟨d, h1, h2⟩ := h
 exact ⟨d, s _ _ h1, s _ _ h2⟩
theorem XF.at {H : Hp} {a C : Addr} {fs : List (Str × V)} (h : XF H a C fs) : XAt H a C := by
 obtain ⟨d, h1, h2⟩ := h
 exact Or.inr ⟨d, fs, h1, h2⟩
theorem XAt.same {H H' : Hp} {a C : Addr} (h : XAt H a C) (s : Same H H') : XAt H' a C := by
 rcases h with h | ⟨d, fs, h1, h2⟩
 ·exact Or.inl (s _ _ h)
 ·exact Or.inr ⟨d, fs, s _ _ h1, s _ _ h2⟩
theorem Zpp {K : PySem.W.Frag} {C : Addr} {f : Str} {l : List Nat} (T : OexC K C) (no : PySem.W.findIn K (.ref C) f = some none) {x y : Str} (vs : List V) (H : Hp) (Q : VK) (E : XK) (h : spX1 C f vs H Q E) :
  tSeq (tDrop (tVeI K (tCons (tVar 0) (tCons (tC (sv l)) tNil)))) (tOst K f (tVar 0) (tVar 1)) { nx := fun _ H' => Q .non H', rt := Q } (start [x, y] vs) H := by
 obtain ⟨a, v, rfl, ha, k⟩ := h
 refine ⟨_, rfl, a, C, _, rfl, by show 1 ≤ 1000; decide, T, ha, ?_⟩
 exact ⟨_, rfl, _, rfl, a, C, rfl, T, no, Or.inl ⟨ha, fun d hd ne => k d hd ne⟩⟩
theorem Z1l {K : PySem.W.Frag} {C : Addr} {f g : Str} {l : List Nat} (T : OexC K C) (no : PySem.W.findIn K (.ref C) f = some none) (no2 : PySem.W.findIn K (.ref C) g = some none) {x y z : Str} (vs : List V) (H : Hp) (Q : VK) (E : XK) (h : spX2 C f g vs H Q E) :
  tSeq (tDrop (tVeI K (tCons (tVar 0) (tCons (tC (sv l)) tNil)))) (tSeq (tOst K f (tVar 0) (tVar 1)) (tOst K g (tVar 0) (tVar 2))) { nx := fun _ H' => Q .non H', rt := Q } (start [x, y, z] vs) H := by
 obtain ⟨a, v, u, rfl, ha, k⟩ := h
 refine ⟨_, rfl, a, C, _, rfl, by show 1 ≤ 1000; decide, T, ha, ?_⟩
 refine ⟨_, rfl, _, rfl, a, C, rfl, T, no, Or.inl ⟨ha, fun d hd ne => ?_⟩⟩
 exact ⟨_, rfl, _, rfl, a, C, rfl, T, no2, Or.inr ⟨d, _, upd_same, by rw [upd_ne ne, upd_same], by show 1 ≤ 900; decide, k d hd ne⟩⟩
theorem Zgk {α β : Type} (f : α → β) (z : List α) (lo hi : Option Int) : cut (z.map f) lo hi = (cut z lo hi).map f := by
 unfold cut
 rw [Hn, Ta, Qb]
def flat : V → Bool
 | .non | .bl _ | .int _ => true
 | .str x => PyData.strOk x
 | _ => false
section
variable {K : PySem.W.Frag} {H : Hp}
theorem Z7a {f : Str} {te : TE} {σ : L2.St} {Q : VK} (h : te σ H fun x H1 => ∃ (a C d : Addr) (fs : List (Str × V)) (v : V), x = .ref a ∧ XfC K C ∧ PySem.W.findIn K (.ref C) f = some none ∧ H1 a = some (exo a C (some d)) ∧ H1 d = some (exd d fs) ∧ fs.lookup f = some v ∧ Q v H1) : tXfv K f te σ H Q := h
theorem Z7d {te : TE} {σ : L2.St} {QB : Bool → Hp → Prop} (h : te σ H fun x H' => ∃ k, TruV K x H' k ∧ QB k H') : tTru K te σ H QB := h
theorem Z69 {σ : L2.St} {QB : Bool → Hp → Prop} (h : QB true H) : tYes σ H QB := h
end
abbrev asc (l : List Nat) : Prop := ∀ c ∈ l, c < 128
abbrev sgs (z : List Nat) : List V := z.map fun c => sv [c]
theorem Zza (z : List Nat) : sgs z = (z.map fun c => S [c]).map V.str := by
 rw [Qk]
 rfl
theorem Zr7 {z : List Nat} {acc : Array Value} (h : ItemsOf (SignAt (S z)) acc (S z).cps.size) : Vals (sgs z) acc.toList := by
 refine vals_of_idx _ _ ?_ fun j u hj => ?_
 ·rw [Qb, H9, h.1]
  rfl
 ·obtain ⟨c, t, hc, rfl⟩ := h.2 j u (by rw [← L5]; exact hj)
  have hz : z[j]? = some c := by simpa using hc
  exact ⟨sv [c], by rw [Ql, hz]; rfl, ⟨t, rfl⟩⟩
theorem Zr8 {z : List Nat} {acc : Array Value} (h : ItemsOf (SignAt (S z)) acc (S z).cps.size) : StrsAre acc.toList (z.map fun c => S [c]) := by
 refine L2.strs_at ?_ fun j v hj => ?_
 ·rw [Qb, H9, h.1]
  rfl
 ·obtain ⟨c, t, hc, rfl⟩ := h.2 j v (by rw [← L5]; exact hj)
  have hz : z[j]? = some c := by simpa using hc
  exact ⟨S [c], t, by rw [Ql, hz]; rfl, rfl⟩
section
variable {X : Cx}
def Zqn (K : PySem.W.Frag) : List V → Hp → VK → Prop := fun xs H Q => match xs with
 | [.ref p] => ∃ ys, (SqL K H p ys ∨ SqT K H p ys) ∧ ∀ l, H l = none → Q (.ref l) (upd H l (.lst ys))
 | [.str ⟨⟨z⟩⟩] => z.length ≤ sizeLine ∧ ∀ l, H l = none → Q (.ref l) (upd H l (.lst (sgs z)))
 | _ => False
theorem Zyi (hc : X.calm = true) : CallR X (.type "list") (Zqn X.K) := by
 intro pins s σ H xs us Q I r h
 match xs, h with
 | [.ref p], ⟨ys, h1, q⟩ => exact call_list_of pins s σ H _ us Q I r ⟨p, ys, rfl, h1, q⟩
 | [.str ⟨⟨z⟩⟩], ⟨hz, q⟩ =>
  obtain ⟨u, rfl, t, rfl⟩ := vals1 r
  refine call_list_str (I.ok.hd hc) _ t (fun h' tk acc c' hk e hi => ?_) hz
  refine ⟨.ref s.heap.objs.size, upd H s.heap.objs.size (.lst (sgs z)), I.laid hk (Qz _) ⟨by rw [Qb]; exact hz, acc.toList, c', Zr7 hi, by rw [G8]; exact e⟩, rfl, q _ (I.hok.fresh (Qz _))⟩
def Zsu (K : PySem.W.Frag) : List V → Hp → VK → Prop := fun xs H Q => match xs with
 | [.ref a] => ∃ ys : List Str, SqL K H a (ys.map V.str) ∧ ys.length < 64 ∧ ∀ (zs : List Str) (p : Addr), zs.Perm ys → sortedS zs = true → H p = none → Q (.ref p) (upd H p (.lst (zs.map V.str)))
 | [.str ⟨⟨z⟩⟩] => z.length < 64 ∧ ∀ (zs : List Str) (p : Addr), zs.Perm (z.map fun c => S [c]) → sortedS zs = true → H p = none → Q (.ref p) (upd H p (.lst (zs.map V.str)))
 | _ => False
theorem Zv0 (hc : X.calm = true) : CallR X (.builtin "sorted") (Zsu X.K) := by
 intro pins s σ H xs us Q I r h
 match xs, h with
 | [.ref a], ⟨ys, h1, h2, q⟩ => exact cr_sortedS pins s σ H _ us Q I r ⟨a, ys, rfl, h1, h2, q⟩
 | [.str ⟨⟨z⟩⟩], ⟨h64, q⟩ =>
  obtain ⟨u, rfl, t, rfl⟩ := vals1 r
  refine Calls.call_function_entry PyProof.Rows.kind_sorted PyProof.Rows.plain_sorted PyProof.Rows.entry_sorted (PyProof.Rows.args_sorted1 _) ?_
  unfold Builtin.«sorted»
  refine wpAny_bind (m := checkCount "sorted" 1 1 _) (wpAny_pure ?_)
  refine wpAny_bind (wpAny_collect_str (A := X.A.in1) (I.ok.hd hc) (S z) t (fun s1 acc hk hg hd ho hacc => ?_) (by show z.length ≤ sizeLine; rw [sizeLine_eq]; omega))
  have hS := Zr8 hacc
  have hal : acc.toList.length = z.length := by rw [H9, hacc.1]; rfl
  obtain ⟨hp, g1, d1, tk, o1⟩ := s1
  have eg : g1 = s.gens := hg
  have eo : o1 = s.os := ho
  have ed : d1 = s.drawn := hd
  subst eg eo ed
  have I1 : Inv X pins σ H { s with heap := hp, toks := tk } := I.kept hk
  refine wpAny_bind (wpAny_newList ?_ (by rw [hal, sizeLine_eq]; omega))
  have hoL : (hp.push (seqObj "list" acc.toList.toArray 0)).get? hp.objs.size = some (seqObj "list" acc.toList.toArray 0) := Heap.get?_push_size _ rfl
  show wpAny _ _ _ _ _ { s with heap := hp.push (seqObj "list" acc.toList.toArray 0), toks := tk }
  refine wpAny_bind (wpAny_holding (wpAny_call_entry PyProof.Rows.slot_list_sort ⟨_, hoL, rfl⟩ PyProof.Rows.entry_list_sort (list_sort_treeK strKind_oneLt (s := { s with heap := hp.push (seqObj "list" acc.toList.toArray 0), toks := tk }) hoL hS.keysOf
   (fun v₁ v₂ rest e => keyKind_strs (by rw [← e]; exact hS)) (by rw [hal]; exact h64) fun st' hpm hs => ⟨_, rfl, ?_⟩) (PyProof.Rows.args_list_sort _)))
  obtain ⟨zs, k1, k2, k3⟩ := sorted_out_str hS hpm hs
  obtain ⟨e', he'⟩ := PyProof.Rows.sortedHeap_at (vs := acc.toList) (out := (arrOf st').map (·.2)) hoL
  have hlen : (zs.map V.str).length ≤ sizeLine := by
   rw [Qb, k2.length_eq, Qb, sizeLine_eq]
   omega
  refine wpAny_pure ⟨_, rfl, .ref hp.objs.size, upd H hp.objs.size (.lst (zs.map V.str)), I1.laid (t' := tk) (fun b u e => ?_) (Qz _)
   (show ObjOk X.prog X.w _ _ _ (.lst (zs.map V.str)) from ⟨hlen, ((arrOf st').map (·.2)).toList, e', vals_of_strs k1, by rw [G8]; exact he'⟩), rfl, q zs _ k2 k3 (I1.hok.fresh (Qz _))⟩
  have hb : b < hp.objs.size := Heap.lt_size e
  rw [PyProof.Rows.sortedHeap_old (Gq hb) (by rw [size_push']; exact Nat.lt_succ_of_lt hb)]
  exact Heap.get?_push_of_some _ e
end
end Cl
namespace Cl
open PySem PySem.Spec PyProof.Rows L2 He PySem.Froz
structure TxR (P : Program) (w : World) (D : SD) (l : List Str) : Prop where
 ok : TxOk P w D l
 ris : Ris D.2.2.place.toList
 led : w.params.followText "set-order" = true ∨ D.2.2.led = true
theorem Zwx {ep : Nat} {es : Array (Int × Value)} {t : SetTable} {d : Bool} (h : Ris t.place.toList) : Ris (tailTx ep es t d).2.2.place.toList := by
 unfold tailTx
 split
 ·exact relayAll_ris t es _
 ·exact h
theorem Zwy {ep : Nat} {es : Array (Int × Value)} {t : SetTable} {d : Bool} : (tailTx ep es t d).2.2.led = t.led := by
 unfold tailTx
 split
 ·exact relayAll_led t es _
 ·rfl
section
variable {P : Program} {w : World} {A : Around} {E : Value → Shared → Prop} {s : Shared}
theorem TxR.add {D : SD} {l : List Str} {k : Str} (u : Tok) (T : TxR P w D l) : TxR P w (addTx (hashStr w k) (.str k u) D) (k :: l) := by
 refine ⟨add_ok u T.ok, ?_, ?_⟩
 ·unfold addTx
  refine Zwx ?_
  split
  ·exact layNew_ris _ _ _ _ T.ris
  ·exact layNew_ris _ _ _ _ T.ris
 ·refine T.led.imp id fun h => ?_
  unfold addTx
  rw [Zwy]
  split
  ·show (layNew D.2.2 D.1 (hashStr w k) (.str k u)).2.1.led = true
   rw [layNew_led]
   exact h
  ·rw [layNew_led]
   exact h
theorem Z26 {a : Addr} {D : SD} {l : List Str} {k : Str} {u : Tok} {Q : Bool → Shared → Prop} (ho : s.heap.get? a = some (sObj "set" D)) (F : TxOk P w D l) (hk : k ∈ l) (hb : l.length < scanBound) (h : Q false s) :
  wpAny (model P w) A (setAddHashed a (.str k u) (hashStr w k)) Q E s := by
 obtain ⟨es, ep, t⟩ := D
 have hb0 : es.size < scanBound := by rw [show es.size = l.length from F.sz]; exact hb
 have hsome : ∃ j, List.findIdx? (fun e => (strKind P w).is k e.2) es.toList = some j := by
  cases q : List.findIdx? (fun e => (strKind P w).is k e.2) es.toList with
  | some j => exact ⟨j, rfl⟩
  | none =>
   obtain ⟨e, he, hp⟩ := (F.mem k).mp hk
   have z := List.findIdx?_eq_none_iff.mp q e he
   rw [hp] at z
   cases z
 obtain ⟨j, hj⟩ := hsome
 unfold setAddHashed setAddHashedIn
 refine wpAny_holding (wpAny_bind (wpAny_setState_of ho rfl F.fit ?_))
 dsimp only
 rw [byScan_of rfl hb0 F.el]
 simp only [↓reduceIte]
 unfold setAddByScan
 refine wpAny_bind (wpAny_bind (wpAny_rule (wpAny_bind (wpAny_setScan_of (knd := strKind P w) (k := k) (Froz.is_str k u) ho rfl F.fit F.el ?_))))
 rw [hj]
 dsimp only
 exact wpAny_pure (wpAny_pure h)
end
section
variable {P : Program} {w : World} {A : Around} {R : Result → Shared → Prop} {I : Addr} {fp wr : List Addr} {G : Array GenState → Array GenState → Prop} {n : Nat} {Pv : Nat → Value → Prop} {St : Nat → Shared → Prop}
theorem Zw8 (W : WalksS P w A.in1 I fp wr G n Pv St) (a : Addr) (ha : a ∉ fp) (val : Nat → Str) (hval : ∀ i v, Pv i v → ∃ t, v = .str (val i) t) (hb : n + 1 < scanBound) : ∀ (k i : Nat) (s : Shared) (D : SD) (l : List Str), n - i = k → i ≤ n → St i s →
  s.heap.get? a = some (sObj "set" D) → TxR P w D l → l.Nodup → l.length ≤ i →
  (∀ s' D' l', Moved (a :: wr) G s s' → s'.heap.get? a = some (sObj "set" D') → TxR P w D' l' → l'.Nodup → (∀ x, x ∈ l' ↔ x ∈ l ∨ ∃ j, i ≤ j ∧ j < n ∧ x = val j) → l'.length ≤ n → R (.ok (.ret .none)) s') →
  codeAny (model P w) A (.builtin "set.update.loop" ⟨[.ref a, .ref I], []⟩) R s := by
 have haw : a ∉ wr := fun h => ha (W.sub _ h)
 have up : ∀ b ∈ wr, b ∈ a :: wr := fun b h => Qh _ h
 intro k
 induction k with
 | zero =>
  intro i s D l hk hi st ho T nd hl hR
  obtain rfl : i = n := by omega
  refine codeAny_builtin PyProof.Rows.F.entry_set_update_loop ?_
  rw [Around.under_plainId PyProof.Rows.F.plain_set_update_loop _]
  refine wpAny_bind (W.done s _ _ st fun s' hm => wpAny_pure (hR s' D l (hm.mono up) (hm.heap a _ haw ho) T nd (fun x => ⟨Or.inl, fun h => ?_⟩) hl))
  rcases h with h | ⟨j, h1, h2, _⟩
  ·exact h
  ·omega
 | succ k ih =>
  intro i s D l hk hi st ho T nd hl hR
  have hlt : i < n := by omega
  refine codeAny_builtin PyProof.Rows.F.entry_set_update_loop ?_
  rw [Around.under_plainId PyProof.Rows.F.plain_set_update_loop _]
  refine wpAny_bind (W.item i s _ _ hlt st fun v s1 hv st1 hm => ?_)
  obtain ⟨t, rfl⟩ := hval i v hv
  have ho1 := hm.heap a _ haw ho
  refine wpAny_bind (wpAny_holding ?_)
  unfold setAdd
  refine wpAny_holding (wpAny_bind ((strKind P w).pyHash (k := val i) (Froz.is_str _ _) ?_))
  have go : ∀ (h2 : Heap) (D2 : SD) (l2 : List Str), (∀ b o, b ≠ a → s1.heap.get? b = some o → h2.get? b = some o) → h2.get? a = some (sObj "set" D2) → TxR P w D2 l2 → l2.Nodup → l2.length ≤ i + 1 → (∀ x, x ∈ l2 ↔ x ∈ l ∨ x = val i) →
    codeAny (model P w) A (.builtin "set.update.loop" ⟨[.ref a, .ref I], []⟩) R { s1 with heap := h2, toks := s1.toks + 1 } := fun h2 D2 l2 kp ho2 T2 nd2 hl2 m2 => by
   refine ih (i + 1) _ D2 l2 (by omega) hlt (W.frame _ s1 _ _ st1 (Nat.le_succ _) fun b hb o e => kp b o (fun z => ha (z ▸ hb)) e) ho2 T2 nd2 hl2 fun s' D' l' mv ho' T' nd' m' hl' => ?_
   refine hR s' D' l' (Moved.trans W.gtrans ((hm.mono up).then_heap (Nat.le_succ _) fun b o hb e => kp b o (fun z => hb (by rw [z]; exact Qp)) e) mv) ho' T' nd' (fun x => ?_) hl'
   rw [m', m2]
   constructor
   ·rintro ((h | h) | ⟨j, h1, h2, h3⟩)
    ·exact Or.inl h
    ·exact Or.inr ⟨i, Qz _, hlt, h⟩
    ·exact Or.inr ⟨j, by omega, h2, h3⟩
   ·rintro (h | ⟨j, h1, h2, h3⟩)
    ·exact Or.inl (Or.inl h)
    ·by_cases e : j = i
     ·exact Or.inl (Or.inr (e ▸ h3))
     ·exact Or.inr ⟨j, by omega, h2, h3⟩
  by_cases hin : val i ∈ l
  ·refine Z26 (s := { s1 with toks := s1.toks + 1 }) ho1 T.ok hin (by omega) (wpAny_pure ⟨plainId_quiet PyProof.Rows.F.plain_set_update_loop _, ?_⟩)
   exact go s1.heap D l (fun _ _ _ e => e) ho1 T nd (by omega) fun x => ⟨Or.inl, fun h => h.elim id fun e => e ▸ hin⟩
  ·refine add_x (s := { s1 with toks := s1.toks + 1 }) ho1 T.ok hin (by omega) (wpAny_pure ⟨plainId_quiet PyProof.Rows.F.plain_set_update_loop _, ?_⟩)
   refine go _ _ (val i :: l) (fun b o hb e => (Heap.get?_update_other _ _ (Ne.symm hb)).trans e) (Froz.get_upd _ ho1 rfl) (T.add t) (Hd.mpr ⟨hin, nd⟩) (by show l.length + 1 ≤ i + 1; omega) fun x => ?_
   rw [Qg]
   exact Or.comm
end
abbrev nD (w : World) : SD := (#[], 0, .fresh 0 0 (!w.params.followText "set-order"))
theorem Z8c (P : Program) (w : World) : TxR P w (nD w) [] := by
 refine ⟨TxOk.nil rfl, List.Pairwise.nil, ?_⟩
 show _ ∨ (!w.params.followText "set-order") = true
 cases w.params.followText "set-order"
 ·exact .inr rfl
 ·exact .inl rfl
section
variable {P : Program} {w : World} {A : Around} {E : Value → Shared → Prop} {s : Shared}
theorem Zv6 (v : Value) {Q₁ : Value → Shared → Prop} (h : Q₁ (.ref s.heap.objs.size) { s with heap := s.heap.push (sObj "set" (nD w)) }) : codeAny (model P w) A (.call (.builtin "set.__new__") ⟨[.type "set", v], []⟩) (wants Q₁ E) s := by
 refine codeAny_of_tree ?_
 refine wpAny_bind (wpAny_of_eq (PySem.F.newCall_set_1 v) (wpAny_pure ⟨plainId_quiet F.plain_set_new _, codeAny_builtin F.entry_set_new ?_⟩))
 rw [Around.under_plainId F.plain_set_new _]
 unfold Builtin.«set.__new__» Builtin.Frozenset.newClass
 have hsub := sub_set_self
 obtain ⟨hp, g, d, tk, os⟩ := s
 dsimp only
 wp_walk
 refine wpAny_askSetting (wpAny_pure ?_)
 dsimp only
 simp only [newObj]
 exact wpAny_bind (wpAny_alloc (wpAny_pure (wpAny_pure h)))
end
theorem sub_str_set : isSubtype (.type "str") (.type "set") = pure false := by rw [isSubtype_type]; kernel_rfl
theorem Zr1 : isSubtype (.type "str") (.type "frozenset") = pure false := by rw [isSubtype_type]; kernel_rfl
section
variable {P : Program} {w : World} {A : Around} {E : Value → Shared → Prop} {s : Shared}
theorem Zov {z : List Nat} {tz : Tok} {Q : Value → Shared → Prop} (hh : A.handled = none) (hb : z.length + 1 < scanBound)
  (h : ∀ (h' : Heap) (tk : Nat) (D : SD) (l : List Str), h'.get? s.heap.objs.size = some (sObj "set" D) → TxR P w D l → l.Nodup → (∀ x, x ∈ l ↔ ∃ c ∈ z, x = S [c]) → l.length ≤ z.length →
   (∀ b o, s.heap.get? b = some o → h'.get? b = some o) → Q (.ref s.heap.objs.size) { s with heap := h', toks := tk }) :
  wpAny (model P w) A (call (.type "set") [.str (S z) tz]) Q E s := by
 obtain ⟨c, tl, hmro⟩ := PySem.F.called_set.mro
 have hmade := PySem.F.called_set.made
 have hsub := PySem.F.called_set.sub
 refine wpAny_call (codeAny_of_tree ?_)
 show wpAny _ _ (callAny (.type "set") _) _ _ _
 refine wpAny_pure ⟨Code.quiet_builtin _ (by decide +kernel), codeAny_builtin PySem.F.entry_type_call ?_⟩
 rw [Around.under_plain (weight_type_call_type "set" [.str (S z) tz] []) rfl]
 have h1 := PySem.F.called_set.notType
 have h2 := PySem.F.called_set.canCreate
 have hct := PySem.F.typeCall_set_1 (.str (S z) tz)
 wp_delta
 (with_reducible apply wpAny_ite_false); focus (rfl; done)
 (with_reducible apply wpAny_ite_false); focus (rfl; done)
 with_reducible refine wpAny_bind ?_
 with_reducible refine wpAny_of_eq (by assumption)  ?_
 with_reducible refine wpAny_bind ?_
 with_reducible refine wpAny_of_eq (by assumption)  ?_
 (with_reducible apply wpAny_ite_false); focus (rfl; done)
 with_reducible refine wpAny_bind ?_
 with_reducible refine wpAny_of_eq (by assumption)  ?_
 with_reducible refine wpAny_bind ?_
 with_reducible refine wpAny_pure ?_
 with_reducible refine wpAny_bind ?_
 with_reducible refine wpAny_holding ?_
 with_reducible refine wpAny_call ?_
 refine codeAny_mono (Zv6 (.str (S z) tz) (E := E) (Q₁ := fun obj s₁ => obj = .ref s.heap.objs.size ∧ s₁ = { s with heap := s.heap.push (sObj "set" (nD w)) }) ⟨rfl, rfl⟩) fun r s₁ hr => ?_
 cases r with
 | error e => exact hr
 | ok fl =>
  cases fl with
  | ret obj =>
   obtain ⟨rfl, rfl⟩ := hr
   have hS : (s.heap.push (sObj "set" (nD w))).get? s.heap.objs.size = some (sObj "set" (nD w)) := Heap.get?_push_size _ rfl
   have hT : Shared.TypeIs { s with heap := s.heap.push (sObj "set" (nD w)) } (.ref s.heap.objs.size) "set" := ⟨_, hS, rfl⟩
   have hli := PySem.F.called_set.init.lookup
   have hbi := PySem.F.called_set.init.bind (.ref s.heap.objs.size)
   with_reducible refine wpAny_bind ?_
   with_reducible refine wpAny_isInstance (by assumption) (by assumption)  ?_
   (with_reducible apply wpAny_ite_false); focus (rfl; done)
   with_reducible refine wpAny_bind ?_
   with_reducible refine wpAny_holding ?_
   wp_delta
   with_reducible refine wpAny_bind ?_
   with_reducible refine wpAny_specialOf (by assumption) (by assumption)  ?_
   with_reducible refine wpAny_holding ?_
   with_reducible refine wpAny_bind ?_
   with_reducible refine wpAny_of_eq (by assumption)  ?_
   with_reducible refine wpAny_bind ?_
   with_reducible refine wpAny_call ?_
   refine codeAny_mono (codeAny_call_builtin (R := wants (fun r s₂ => r = .none ∧ ∃ h' tk D l, s₂ = { s with heap := h', toks := tk } ∧ h'.get? s.heap.objs.size = some (sObj "set" D) ∧ TxR P w D l ∧ l.Nodup ∧ (∀ x, x ∈ l ↔ ∃ c ∈ z, x = S [c]) ∧ l.length ≤ z.length ∧
    (∀ b o, s.heap.get? b = some o → h'.get? b = some o)) E) PySem.F.called_set.init.plain PySem.F.entry_set_init (check_set_init_1 hT ?_)) fun r₂ s₂ hr₂ => ?_
   ·have e1 := sub_str_set
    have e2 := Zr1
    have e3 : (Value.type "str" == Value.type "dict") = false := by decide
    unfold Builtin.«set.__init__» noKeywords Builtin.Frozenset.updateFrom
    generalize hPI : pyIter = PI
    with_reducible refine wpAny_bind ?_
    (with_reducible apply wpAny_ite_true); focus (rfl; done)
    with_reducible refine wpAny_pure ?_
    wp_delta
    with_reducible refine wpAny_bind ?_
    wp_delta
    with_reducible refine wpAny_bind ?_
    wp_delta
    with_reducible refine wpAny_bind ?_
    with_reducible refine wpAny_typeOf (by assumption)  ?_
    (with_reducible apply wpAny_ite_false); focus (rfl; done)
    with_reducible refine wpAny_pure ?_
    wp_delta
    wp_delta
    with_reducible refine wpAny_pure ?_
    with_reducible refine wpAny_bind ?_
    wp_delta
    (with_reducible apply wpAny_ite_false); focus (rfl; done)
    (with_reducible apply wpAny_ite_false); focus (rfl; done)
    (with_reducible apply wpAny_ite_false); focus (rfl; done)
    with_reducible refine wpAny_pure ?_
    with_reducible refine wpAny_bind ?_
    wp_delta
    with_reducible refine wpAny_pure ?_
    with_reducible refine wpAny_bind ?_
    wp_delta
    with_reducible refine wpAny_bind ?_
    wp_delta
    with_reducible refine wpAny_bind ?_
    (with_reducible apply wpAny_load'); focus (heap_get; done)
    wp_delta
    (with_reducible apply wpAny_ite_false); focus (rfl; done)
    with_reducible refine wpAny_pure ?_
    with_reducible refine wpAny_pure ?_
    (with_reducible apply wpAny_ite_false); focus (rfl; done)
    wp_delta
    with_reducible refine wpAny_bind ?_
    with_reducible refine wpAny_bind ?_
    wp_delta
    wp_delta
    with_reducible refine wpAny_bind ?_
    wp_delta
    with_reducible refine wpAny_bind ?_
    wp_delta
    with_reducible refine wpAny_pure ?_
    with_reducible refine wpAny_of_eq (by assumption)  ?_
    wp_delta
    wp_delta
    with_reducible refine wpAny_bind ?_
    wp_delta
    with_reducible refine wpAny_pure ?_
    with_reducible refine wpAny_of_eq (by assumption)  ?_
    (with_reducible apply wpAny_ite_false); focus (rfl; done)
    with_reducible refine wpAny_bind ?_
    wp_delta
    with_reducible refine wpAny_pure ?_
    (with_reducible apply wpAny_ite_false); focus (rfl; done)
    with_reducible refine wpAny_bind ?_
    subst hPI
    refine wpAny_pyIter_str fun o St W hst => ?_
    refine wpAny_bind (wpAny_runValue ?_)
    have hh3 : A.in1.in1.in1.handled = none := by simp [hh]
    have ne : s.heap.objs.size ≠ (s.heap.push (sObj "set" (nD w))).objs.size := by
     rw [Heap.size_push]
     exact Gq (Nat.lt_succ_self _)
    refine Zw8 ((W _ hh3).toS) s.heap.objs.size (fun m => ne (Qq.mp m)) (fun i => S [z.getD i 0]) (fun i v hv => ?_) hb (z.length - 0) 0 _ (nD w) [] (by show z.length - 0 = _; omega) (Q4 _) hst
     (Heap.get?_push_of_some _ hS) (Z8c P w) Gh (Qz _) fun s' D l mv ho T nd m hl => ?_
    ·obtain ⟨c, u, hc, rfl⟩ := hv
     have hz : z[i]? = some c := by simpa using hc
     exact ⟨u, by rw [Qi, hz]; rfl⟩
    ·obtain ⟨h', g', d', tk', os'⟩ := s'
     have eg : g' = s.gens := mv.gens
     have ed : d' = s.drawn := mv.drawn
     have eo : os' = s.os := mv.os
     subst eg ed eo
     refine wpAny_pure (wpAny_pure ⟨rfl, h', tk', D, l, rfl, ho, T, nd, fun x => ?_, hl, fun b u e => ?_⟩)
     ·rw [m x]
      constructor
      ·rintro (q | ⟨j, _, hj, rfl⟩)
       ·cases q
       ·have hj' : j < z.length := hj
        exact ⟨z[j], H5 hj', by rw [Qi, Qf hj']; rfl⟩
      ·rintro ⟨c, hc, rfl⟩
       obtain ⟨j, hj, e⟩ := G9.mp hc
       exact Or.inr ⟨j, Q4 _, hj, by rw [Qi, Qf hj, e]; rfl⟩
     ·have hlt := Heap.lt_size e
      refine mv.heap b u (fun q => ?_) (Heap.get?_push_of_some _ (Heap.get?_push_of_some _ e))
      rcases Qg.mp q with q | q
      ·exact absurd q (Gq hlt)
      ·have q2 := Qq.mp q
       have e2 : (s.heap.push (sObj "set" (nD w))).objs.size = s.heap.objs.size + 1 := by rw [Heap.size_push]
       have q3 : b = (s.heap.push (sObj "set" (nD w))).objs.size := q2
       exact absurd hlt (by rw [q3, e2]; exact Nat.not_lt.mpr (Nat.le_succ _))
   ·cases r₂ with
    | error e => exact hr₂
    | ok fl₂ =>
     cases fl₂ with
     | ret r =>
      obtain ⟨rfl, h', tk, D, l, rfl, k1, k2, k3, k4, k5, k6⟩ := hr₂
      with_reducible refine wpAny_pure ?_
      (with_reducible apply wpAny_ite_false); focus (rfl; done)
      wp_delta
      wp_delta
      with_reducible refine wpAny_pure ?_
      exact h h' tk D l k1 k2 k3 k4 k5 k6
     | _ => exact hr₂.elim
  | _ => exact hr.elim
end
theorem Zpq {α : Type} [BEq α] [LawfulBEq α] : ∀ {l m : List α}, l.Nodup → (∀ x, x ∈ l → x ∈ m) → m.length ≤ l.length → m.Perm l
 | [], m, _, _, h => by
  have : m = [] := Ga.mp (by simpa using h)
  rw [this]
 | x :: t, m, nd, sub, h => by
  obtain ⟨hx, nt⟩ := Hd.mp nd
  have hm := sub x Qp
  have p := La hm
  have l1 := p.length_eq
  simp only [Qe] at l1 h
  have ih := Zpq (l := t) (m := m.erase x) nt (fun y hy => (Lb (fun e => hx (by rw [← e]; exact hy))).mpr (sub y (Qh _ hy))) (by omega)
  exact p.trans (ih.cons x)
theorem Zfh {α : Type} [BEq α] [LawfulBEq α] : ∀ {l m : List α}, l.Nodup → (∀ x, x ∈ l → x ∈ m) → l.length ≤ m.length
 | [], m, _, _ => Q4 _
 | x :: t, m, nd, sub => by
  obtain ⟨hx, nt⟩ := Hd.mp nd
  have p := La (sub x Qp)
  have l1 := p.length_eq
  simp only [Qe] at l1 ⊢
  have ih := Zfh (l := t) (m := m.erase x) nt (fun y hy => (Lb (fun e => hx (by rw [← e]; exact hy))).mpr (sub y (Qh _ hy)))
  omega
def TxS (P : Program) (w : World) (a : Addr) (l : List Str) : HO := .ext fun h => ∃ D, h.get? a = some (sObj "set" D) ∧ TxR P w D l
theorem Z3i {P : Program} {w : World} {H : Hp} {h : Heap} {a : Addr} {D : SD} {l : List Str} (e : h.get? a = some (sObj "set" D)) (T : TxR P w D l) : ObjOk P w H h a (TxS P w a l) :=
 ⟨⟨D, e, T⟩, ⟨_, e⟩, fun _ _ ⟨D, q, r⟩ k => ⟨D, k _ q, r⟩⟩
section
variable {X : Cx}
def zSet (P : Program) (w : World) : List V → Hp → VK → Prop := fun xs H Q => match xs with
 | [.str ⟨⟨z⟩⟩] => z.length ≤ 1000 ∧ ∀ p l, H p = none → l.Nodup → (∀ x, x ∈ l ↔ ∃ c ∈ z, x = S [c]) → l.length ≤ z.length → Q (.ref p) (upd H p (TxS P w p l))
 | _ => False
theorem Z6p (hc : X.calm = true) : CallR X (.type "set") (zSet X.prog X.w) := by
 intro pins s σ H xs us Q I r h
 match xs, h with
 | [.str ⟨⟨z⟩⟩], ⟨hz, q⟩ =>
  obtain ⟨u, rfl, t, rfl⟩ := vals1 r
  refine Zov (I.ok.hd hc) (by unfold scanBound; omega) fun h' tk D l e T nd m hl k => ?_
  exact ⟨.ref s.heap.objs.size, upd H s.heap.objs.size (TxS X.prog X.w s.heap.objs.size l), I.laid (t' := tk) k (Qz _) (Z3i e T), rfl, q _ l (I.hok.fresh (Qz _)) nd m hl⟩
def Zm4 (P : Program) (w : World) (K : PySem.W.Frag) : List V → Hp → VK → Prop := fun xs H Q => zLen K xs H Q ∨ ∃ p l, xs = [.ref p] ∧ H p = some (TxS P w p l) ∧ l.length ≤ 1000 ∧ Q (.int l.length) H
theorem Zmw : CallR X (.builtin "len") (Zm4 X.prog X.w X.K) := by
 intro pins s σ H xs us Q I r h
 rcases h with h | ⟨p, l, rfl, hp, hl, q⟩
 ·exact Z6q pins s σ H xs us Q I r h
 ·obtain ⟨u, rfl, rfl⟩ := vals1 r
  obtain ⟨⟨D, e, T⟩, _⟩ := I.hok p _ hp
  refine call_len_set e ⟨rfl, rfl, rfl⟩ rfl T.ok.fit (by rw [T.ok.sz]; omega) ⟨.int l.length, H, I.tok _, ⟨_, by rw [T.ok.sz]⟩, q⟩
def Ze3 (P : Program) (w : World) (K : PySem.W.Frag) : List V → Hp → VK → Prop := fun xs H Q => Zsu K xs H Q ∨ ∃ a l, xs = [.ref a] ∧ H a = some (TxS P w a l) ∧ l.length < 64 ∧ l.Nodup ∧
 ∀ (zs : List Str) (p : Addr), zs.Perm l → sortedS zs = true → H p = none → Q (.ref p) (upd H p (.lst (zs.map V.str)))
theorem TxR.vals {P : Program} {w : World} {D : SD} {l : List Str} (T : TxR P w D l) (nd : l.Nodup) : ∃ ks : List Str, ks.Perm l ∧ StrsAre (D.1.toList.map (·.2)) ks := by
 have key : ∀ es : List (Int × Value), ElemsOf (strKind P w) es → ∃ ks : List Str, StrsAre (es.map (·.2)) ks ∧ ∀ k, k ∈ ks ↔ ∃ e ∈ es, (strKind P w).is k e.2 = true := by
  intro es
  induction es with
  | nil => exact fun _ => ⟨[], .nil, fun k => by simp⟩
  | cons e es ih =>
   intro h
   obtain ⟨ks, h1, h2⟩ := ih h.tail
   obtain ⟨⟨k, hk, _⟩, _⟩ := h.head
   obtain ⟨t, ht⟩ := Value.isStrOf_shape (x := k) (v := e.2) hk
   refine ⟨k :: ks, by rw [Ha, ht]; exact .cons k t h1, fun x => ?_⟩
   rw [Qg, h2 x]
   constructor
   ·rintro (rfl | ⟨e', he', q⟩)
    ·exact ⟨e, Qp, hk⟩
    ·exact ⟨e', Qh _ he', q⟩
   ·rintro ⟨e', he', q⟩
    rcases Qg.mp he' with rfl | he'
    ·refine Or.inl ?_
     rw [ht] at q
     obtain ⟨t', q'⟩ := Value.isStrOf_shape (x := x) (v := .str k t) q
     cases q'
     rfl
    ·exact Or.inr ⟨e', he', q⟩
 obtain ⟨ks, h1, h2⟩ := key D.1.toList T.ok.el
 refine ⟨ks, ?_, h1⟩
 have hlen : ks.length = l.length := by
  rw [← StrsAre.len_eq h1, Qb, H9]
  exact T.ok.sz
 have sub : ∀ x, x ∈ l → x ∈ ks := fun x hx => (h2 x).mpr ((T.ok.mem x).mp hx)
 exact Zpq nd sub (by omega)
theorem Zsm (hc : X.calm = true) : CallR X (.builtin "sorted") (Ze3 X.prog X.w X.K) := by
 intro pins s σ H xs us Q I r h
 rcases h with h | ⟨a, l, rfl, ha, h64, nd, q⟩
 ·exact Zv0 hc pins s σ H xs us Q I r h
 ·obtain ⟨u, rfl, rfl⟩ := vals1 r
  obtain ⟨⟨D, e, T⟩, _⟩ := I.hok a _ ha
  obtain ⟨ks, pk, hks⟩ := T.vals nd
  have hsz : D.1.size = l.length := T.ok.sz
  refine Calls.call_function_entry PyProof.Rows.kind_sorted PyProof.Rows.plain_sorted PyProof.Rows.entry_sorted (PyProof.Rows.args_sorted1 _) ?_
  unfold Builtin.«sorted»
  refine wpAny_bind (m := checkCount "sorted" 1 1 _) (wpAny_pure ?_)
  refine wpAny_bind (collect_set (A := X.A.in1) (I.ok.hd hc) ⟨_, e, rfl, rfl⟩ T.ok.fit (by rw [hsz]; unfold scanBound; omega) T.ris T.led fun s1 vs hk hz hg ho pm => ?_)
  have hvl : vs.length = l.length := by rw [pm.length_eq, Qb, H9, hsz]
  obtain ⟨us, pu, hS⟩ : ∃ us : List Str, us.Perm l ∧ StrsAre vs us := by
   have key : ∀ {a b : List Value}, a.Perm b → ∀ {ks : List Str}, StrsAre b ks → ∃ us, us.Perm ks ∧ StrsAre a us := by
    intro a b p
    induction p with
    | nil => exact fun h => ⟨_, L6 _, h⟩
    | cons x p ih =>
     intro ks h
     cases h with
     | cons y t h =>
      obtain ⟨us, p1, p2⟩ := ih h
      exact ⟨y :: us, p1.cons y, .cons y t p2⟩
    | swap x y l =>
     intro ks h
     cases h with
     | cons x1 t1 h =>
      cases h with
      | cons x2 t2 h => exact ⟨_, List.Perm.swap _ _ _, .cons x2 t2 (.cons x1 t1 h)⟩
    | trans p q ih1 ih2 =>
     intro ks h
     obtain ⟨us, p1, p2⟩ := ih2 h
     obtain ⟨vs, q1, q2⟩ := ih1 p2
     exact ⟨vs, q1.trans p1, q2⟩
   obtain ⟨us, p1, p2⟩ := key pm hks
   exact ⟨us, p1.trans pk, p2⟩
  obtain ⟨hp, g1, d1, tk, o1⟩ := s1
  have eg : g1 = s.gens := hg
  have eo : o1 = s.os := ho
  subst eg eo
  have I1 : Inv X pins σ H { s with heap := hp, gens := s.gens, drawn := d1, toks := tk } := I.call (ch := []) (Un.kept hk) (I.hok.kept hk) I.bare (fun _ z => nomatch z)
  refine wpAny_bind (wpAny_newList ?_ (by rw [hvl, sizeLine_eq]; omega))
  have hoL : (hp.push (seqObj "list" vs.toArray 0)).get? hp.objs.size = some (seqObj "list" vs.toArray 0) := Heap.get?_push_size _ rfl
  refine wpAny_bind (wpAny_holding (wpAny_call_entry PyProof.Rows.slot_list_sort ⟨_, hoL, rfl⟩ PyProof.Rows.entry_list_sort (list_sort_treeK strKind_oneLt (s := { s with heap := hp.push (seqObj "list" vs.toArray 0), drawn := d1, toks := tk }) hoL hS.keysOf
   (fun v₁ v₂ rest e => keyKind_strs (by rw [← e]; exact hS)) (by rw [hvl]; exact h64) fun st' hpm hs => ⟨_, rfl, ?_⟩) (PyProof.Rows.args_list_sort _)))
  obtain ⟨zs, k1, k2, k3⟩ := sorted_out_str hS hpm hs
  obtain ⟨e', he'⟩ := PyProof.Rows.sortedHeap_at (vs := vs) (out := (arrOf st').map (·.2)) hoL
  have hlen : (zs.map V.str).length ≤ sizeLine := by
   rw [Qb, k2.length_eq, pu.length_eq, sizeLine_eq]
   omega
  refine wpAny_pure ⟨_, rfl, .ref hp.objs.size, upd H hp.objs.size (.lst (zs.map V.str)), I1.laid (t' := tk) (fun b u e => ?_) (Qz _)
   (show ObjOk X.prog X.w _ _ _ (.lst (zs.map V.str)) from ⟨hlen, ((arrOf st').map (·.2)).toList, e', vals_of_strs k1, by rw [G8]; exact he'⟩), rfl, q zs _ (k2.trans pu) k3 (I1.hok.fresh (Qz _))⟩
  have hb : b < hp.objs.size := Heap.lt_size e
  rw [PyProof.Rows.sortedHeap_old (Gq hb) (by rw [size_push']; exact Nat.lt_succ_of_lt hb)]
  exact Heap.get?_push_of_some _ e
end
end Cl
namespace Cl
open PySem PySem.Spec PyProof.Rows L2 He
section
variable {X : Cx}
def zIn (K : PySem.W.Frag) : R2 := fun x y H Q => match y with
 | .ref p => ∃ xs, (SqL K H p xs ∨ SqT K H p xs) ∧ flatV x = true ∧ xs.all flatV = true ∧ Q (.bl (inV x xs)) H
 | .str ⟨⟨z⟩⟩ => (match x with
  | .str ⟨⟨[c]⟩⟩ => Q (.bl (decide (c ∈ z))) H
  | _ => False)
 | _ => False
def Zm3 (K : PySem.W.Frag) : R2 := fun x y H Q => match y with
 | .ref p => ∃ xs, (SqL K H p xs ∨ SqT K H p xs) ∧ flatV x = true ∧ xs.all flatV = true ∧ Q (.bl (!inV x xs)) H
 | .str ⟨⟨z⟩⟩ => (match x with
  | .str ⟨⟨[c]⟩⟩ => Q (.bl (!decide (c ∈ z))) H
  | _ => False)
 | _ => False
theorem Z77 (hu : X.A.units + 64 < cLine) : OpR X (compareOp .In) (zIn X.K) := by
 intro pins s σ H x y v u Q I rx ry h
 match y, h with
 | .ref p, ⟨xs, h1, h2, h3, q⟩ => exact op_in_seq pins s σ H _ _ v u Q I rx ry ⟨p, xs, rfl, h1, h2, h3, q⟩
 | .str ⟨⟨z⟩⟩, h =>
  match x, h with
  | .str ⟨⟨[c]⟩⟩, h => exact op_in_sign pins s σ H _ _ v u Q I rx ry ⟨c, S z, rfl, rfl, h⟩
theorem Zxh (hu : X.A.units + 64 < cLine) : OpR X (compareOp .NotIn) (Zm3 X.K) := by
 intro pins s σ H x y v u Q I rx ry h
 match y, h with
 | .ref p, ⟨xs, h1, h2, h3, q⟩ => exact op_notIn_seq pins s σ H _ _ v u Q I rx ry ⟨p, xs, rfl, h1, h2, h3, q⟩
 | .str ⟨⟨z⟩⟩, h =>
  match x, h with
  | .str ⟨⟨[c]⟩⟩, h => exact op_notIn_sign pins s σ H _ _ v u Q I rx ry ⟨c, S z, rfl, rfl, h⟩
def glue (a : List Nat) : List (List Nat) → List Nat
 | [] => []
 | [x] => x
 | x :: y :: r => x ++ (a ++ glue a (y :: r))
theorem Zx3 (a : List Nat) (ys : List (List Nat)) : Txt.join (S a) (ys.map S) = S (glue a ys) := by
 have key : ∀ (r : List (List Nat)) (x : List Nat), StrLaws.glueT a ((x :: r).map S) = glue a (x :: r) := by
  intro r
  induction r with
  | nil =>
   intro x
   show x ++ [] = x
   rw [Qv]
  | cons y r ih =>
   intro x
   show x ++ StrLaws.glueL a ((y :: r).map S) = x ++ (a ++ glue a (y :: r))
   rw [← ih y]
   rfl
 cases ys with
 | nil => rfl
 | cons x r =>
  have e := StrLaws.glued_list (S a) (S x) (r.map S)
  have k := key r x
  have z : Txt.join (S a) ((x :: r).map S) = ⟨(Txt.join (S a) ((x :: r).map S)).cps⟩ := rfl
  rw [z]
  congr 1
  apply Array.ext'
  exact e.trans k
theorem Zrh : ∀ ys : List (List Nat), glue [] ys = ys.flatten
 | [] => rfl
 | [x] => by show x = x ++ []; rw [Qv]
 | x :: y :: r => by
  show x ++ ([] ++ glue [] (y :: r)) = x ++ (y :: r).flatten
  rw [Zrh (y :: r)]
  rfl
def Zwt (K : PySem.W.Frag) : V → List V → Hp → VK → Prop := fun x xs H Q => match x, xs with
 | .str ⟨⟨a⟩⟩, [.ref p] => ∃ ys : List (List Nat), (SqL K H p (ys.map sv) ∨ SqT K H p (ys.map sv)) ∧ (ys.map List.length).sum + ys.length * a.length ≤ 16777216 ∧ Q (sv (glue a ys)) H
 | _, _ => False
theorem Z1t : MtR X "str.join" (Zwt X.K) := by
 intro pins s σ H x xs v us Q I rx rv h
 match x, xs, h with
 | .str ⟨⟨a⟩⟩, [.ref p], ⟨ys, h1, h2, q⟩ =>
  refine mt_join pins s σ H _ _ v us Q I rx rv ⟨S a, p, ys.map S, rfl, rfl, ?_, ?_, ?_⟩
  ·rw [Qk]
   exact h1
  ·rw [Qk, Qb]
   exact h2
  ·rw [Zx3]
   exact q
def Z66 (te : TE) : TE := fun σ H Q => te σ H fun x H1 => ∃ z, x = sv z ∧ z.length ≤ sizeLine ∧ Q (sv z.reverse) H1
end
def srt (z : List Nat) : List Nat := z.mergeSort (fun a b => decide (a ≤ b))
theorem Zk9 (z : List Nat) : (srt z).Perm z := List.mergeSort_perm _ _
theorem Zyv (z : List Nat) : (srt z).Pairwise (· ≤ ·) := by
 have h := List.pairwise_mergeSort (le := fun a b : Nat => decide (a ≤ b)) (fun a b c h1 h2 => by simp at *; omega) (fun a b => by simp; omega) z
 exact h.imp fun h => by simpa using h
theorem Znh : ∀ {a b : List Nat}, a.Perm b → a.Pairwise (· ≤ ·) → b.Pairwise (· ≤ ·) → a = b
 | [], b, p, _, _ => (List.Perm.nil_eq p)
 | x :: a, [], p, _, _ => absurd p.length_eq (by simp)
 | x :: a, y :: b, p, ha, hb => by
  obtain ⟨h1, h2⟩ := Gr.mp ha
  obtain ⟨k1, k2⟩ := Gr.mp hb
  have e : x = y := by
   have m1 : x ∈ y :: b := p.mem_iff.mp Qp
   have m2 : y ∈ x :: a := p.mem_iff.mpr Qp
   rcases Qg.mp m1 with e | m1
   ·exact e
   ·rcases Qg.mp m2 with e | m2
    ·exact e.symm
    ·have := h1 y m2
     have := k1 x m1
     omega
  subst e
  rw [Znh (List.Perm.cons_inv p) h2 k2]
theorem Zer : ∀ (zs : List Nat) (c : Nat), risingS (S [c]) (zs.map fun c => S [c]) = true → (c :: zs).Pairwise (· ≤ ·)
 | [], c, _ => Lw _ _
 | d :: zs, c, h => by
  obtain ⟨h1, h2⟩ : (!ltCps [d] [c]) = true ∧ risingS (S [d]) (zs.map fun c => S [c]) = true := by
   have : (!ltCps [d] [c] && risingS (S [d]) (zs.map fun c => S [c])) = true := h
   simpa using this
  have ih := Zer zs d h2
  have hcd : c ≤ d := by
   have : ltCps [d] [c] = (decide (d < c) || (d == c && false)) := rfl
   rw [this] at h1
   simp at h1
   exact h1
  refine Gr.mpr ⟨fun x hx => ?_, ih⟩
  rcases Qg.mp hx with rfl | hx
  ·exact hcd
  ·exact Hb hcd ((Gr.mp ih).1 x hx)
theorem Zn5 : ∀ {zs : List Str} {z : List Nat}, zs.Perm (z.map fun c => S [c]) → ∃ y : List Nat, zs = (y.map fun c => S [c]) ∧ y.Perm z := by
 intro zs z p
 have key : ∀ {a b : List Str}, a.Perm b → ∀ z : List Nat, b = (z.map fun c => S [c]) → ∃ y : List Nat, a = (y.map fun c => S [c]) ∧ y.Perm z := by
  intro a b p
  induction p with
  | nil => exact fun z e => ⟨z, e, L6 _⟩
  | cons x p ih =>
   intro z e
   cases z with
   | nil => cases e
   | cons c z =>
    obtain ⟨e1, e2⟩ := Hs e
    obtain ⟨y, h1, h2⟩ := ih z e2
    exact ⟨c :: y, by rw [h1, e1]; rfl, h2.cons c⟩
  | swap x y l =>
   intro z e
   match z, e with
   | c :: d :: z, e =>
    obtain ⟨e1, e2⟩ := Hs e
    obtain ⟨e3, e4⟩ := Hs e2
    exact ⟨d :: c :: z, by rw [e1, e3, e4]; rfl, List.Perm.swap _ _ _⟩
  | trans p q ih1 ih2 =>
   intro z e
   obtain ⟨y, h1, h2⟩ := ih2 z e
   obtain ⟨x, k1, k2⟩ := ih1 y h1
   exact ⟨x, k1, k2.trans h2⟩
 exact key p z rfl
theorem Zng {zs : List Str} {z : List Nat} (p : zs.Perm (z.map fun c => S [c])) (h : sortedS zs = true) : zs.map V.str = sgs (srt z) := by
 obtain ⟨y, rfl, hy⟩ := Zn5 p
 have hs : y.Pairwise (· ≤ ·) := by
  cases y with
  | nil => exact List.Pairwise.nil
  | cons c y => exact Zer y c h
 have e : y = srt z := Znh (hy.trans (Zk9 z).symm) hs (Zyv z)
 rw [e, ← Zza]
theorem Zx8 (z : List Nat) : (z.map fun c => [c]).flatten = z := by
 induction z with
 | nil => rfl
 | cons c z ih =>
  show [c] ++ (z.map fun c => [c]).flatten = c :: z
  rw [ih]
  rfl
section
variable {X : Cx} {CX : CXT} {k : Nat} {f C : Addr} {fd : FuncData} {ps : List Str} {sp : Sp} {dvs : List V} {ds : List Value} {E : L2.St → XK} {x : Str} {p pos : Pos} {e : Expr} {es : List Expr} {t : TA}
def Z3m (C : Addr) (sp : Sp) (dvs : List V) (E : L2.St → XK) (t : TA) : TE := fun σ H Q => t σ H fun vs H1 => ∀ x dx, H1 x = none → H1 dx = none → dx ≠ x →
 sp (.ref x :: (vs ++ dvs)) (upd (upd H1 dx (.own x)) x (.ins C dx [])) (fun v H2 => v = .non ∧ Q (.ref x) H2) (E σ)
end
end Cl
namespace Cl
open PySem PySem.Spec PyProof.Rows L2 He ClX
def Zz6 (K : PySem.W.Frag) (C : Addr) : Bool := PySem.W.readsIn K C (.type "type") && decide (PySem.W.specialIn K (.ref C) "__getattribute__" = some (some (.builtin "type.__getattribute__")))
theorem Zv2 {K : PySem.W.Frag} {C : Addr} (h : Zz6 K C = true) : CRead K C (.type "type") := ⟨(ba h).1, of_decide_eq_true (ba h).2⟩
def Z2x (K : PySem.W.Frag) (C : Addr) (f : Str) (v : V) : Bool := match PySem.W.findCls K (.ref C) (.type "type") f with
 | some (.val u) => relB v u
 | _ => false
theorem Zyj {K : PySem.W.Frag} {C : Addr} {f : Str} {v : V} (h : Z2x K C f v = true) : ∃ u, CVal K C (.type "type") f v u := by
 unfold Z2x at h
 split at h
 ·rename_i u e
  exact ⟨u, e, relB_ok h⟩
 ·cases h
theorem mkr_ok {K : PySem.W.Frag} {x : Str} (h : (Fa.mkr x).ok K = true) : Mk K (ga K x) (fAd K (x, some "__init__")) := by
 obtain ⟨h1, h⟩ := ba h
 obtain ⟨h2, h⟩ := ba h
 obtain ⟨h3, h4⟩ := ba h
 exact ⟨h1, eqO_ok h2, h3, h4⟩
theorem cls_ok {K : PySem.W.Frag} {x : Str} (h : (Fa.cls x).ok K = true) : Cls K (ga K x) := by
 obtain ⟨h1, h⟩ := ba h
 obtain ⟨h2, h⟩ := ba h
 obtain ⟨h3, h4⟩ := ba h
 exact ⟨h1, h2, h3, eqO_ok h4⟩
theorem meth_ok {K : PySem.W.Frag} {x m : Str} (h : (Fa.meth x m).ok K = true) : Meth K (ga K x) m (fAd K (x, some m)) := by
 obtain ⟨h1, h⟩ := ba h
 obtain ⟨h2, h3⟩ := ba h
 exact ⟨eqO_ok h1, h2, h3⟩
def Zc2 (E : XK) (C : Addr) (sp : Sp) (ta : TA) : TS := fun _ σ H => tMkO C sp [] ta σ H fun cls d H' => E cls d H'
theorem Zxa {E : XK} {C : Addr} {f : Str} {v : V} {D : Ends} {σ : L2.St} {H : Hp} (h : ∀ d, H d = none → E (.ref C) (some d) (upd H d (.xd [(f, v)]))) : Zc2 E C (spX1 C f) (tCons (tC v) tNil) D σ H := by
 refine ⟨by show 1 ≤ 1000; decide, fun a ha => ⟨a, v, rfl, upd_same, fun d hd ne => ⟨rfl, d, _, upd_same, by rw [upd_ne ne, upd_same], (Zfn hd).1, ?_⟩⟩⟩
 obtain ⟨h1, _⟩ := Zfn hd
 have e : upd (del (upd (upd (upd H a (exo a C none)) d (exd d [(f, v)])) a (exo a C (some d))) a) d (.xd [(f, v)]) = upd H d (.xd [(f, v)]) := by
  funext b
  by_cases hb : b = d
  ·rw [hb, upd_same, upd_same]
  ·rw [upd_ne hb, upd_ne hb]
   by_cases hc : b = a
   ·rw [hc, del_same, ha]
   ·rw [del_ne hc, upd_ne hc, upd_ne hb, upd_ne hc]
 show E (.ref C) (some d) _
 rw [e]
 exact h d h1
abbrev small : List Nat := [97, 98, 99, 100, 101, 102, 103, 104, 105, 106, 107, 108, 109, 110, 111, 112, 113, 114, 115, 116, 117, 118, 119, 120, 121, 122]
def okL (ls : List Nat) : Prop := (∀ c ∈ ls, c ∈ small) ∧ 1 ≤ ls.length ∧ ls.length ≤ 8 ∧ ls.Nodup
def okV (ls vw : List Nat) : Prop := (∀ c ∈ vw, c ∈ ls) ∧ vw.Nodup
theorem Zf1 {z : List Nat} : (z.map fun c => S [c]).Nodup ↔ z.Nodup := by
 constructor
 ·intro h
  exact (Gf.mp h).imp fun h e => h (by rw [e])
 ·intro h
  exact Gf.mpr (h.imp fun h e => h (by simpa using e))
theorem Zuy {l : List Str} {z : List Nat} (nd : l.Nodup) (m : ∀ x, x ∈ l ↔ ∃ c ∈ z, x = S [c]) : l.length = z.length ↔ z.Nodup := by
 have s1 : ∀ x, x ∈ l → x ∈ z.map fun c => S [c] := fun x hx => by
  obtain ⟨c, hc, e⟩ := (m x).mp hx
  exact Qs.mpr ⟨c, hc, e.symm⟩
 have s2 : ∀ x, x ∈ (z.map fun c => S [c]) → x ∈ l := fun x hx => by
  obtain ⟨c, hc, e⟩ := Qs.mp hx
  exact (m x).mpr ⟨c, hc, e.symm⟩
 constructor
 ·intro h
  have p := Zpq nd s1 (by rw [Qb]; omega)
  exact Zf1.mp (p.nodup_iff.mpr nd)
 ·intro h
  have h1 := Zfh nd s1
  have h2 := Zfh (Zf1.mpr h) s2
  rw [Qb] at h1 h2
  omega
theorem Zpu {l : List Str} {z : List Nat} (nd : l.Nodup) (m : ∀ x, x ∈ l ↔ ∃ c ∈ z, x = S [c]) : decide ((l.length : Int) = (z.length : Int)) = decide z.Nodup := by
 rw [Hm, decide_eq_true_iff, decide_eq_true_iff, ← Zuy nd m]
 omega
def But (D : Addr) (H H' : Hp) : Prop := ∀ a o, a ≠ D → H a = some o → H' a = some o
theorem But.refl (D : Addr) (H : Hp) : But D H H := fun _ _ _ e => e
theorem But.same {D : Addr} {H H' : Hp} (b : But D H H') (hD : H D = none) : Same H H' := fun a o e => b a o (ne_of_none e hD) e
theorem But.trans {D : Addr} {H H1 H2 : Hp} (a : But D H H1) (b : But D H1 H2) : But D H H2 := fun x o hx e => b x o hx (a x o hx e)
theorem Zh2 (z : List Nat) : (srt z).length = z.length := (Zk9 z).length_eq
def Z9h (l v c s : List Nat) : List (Str × V) := putF "signs" (sv s) (putF "consonants" (sv c) (putF "vowels" (sv v) (putF "letters" (sv l) [])))
def cons (l v : List Nat) : List Nat := l.filter fun c => !decide (c ∈ v)
section
variable {K : PySem.W.Frag} {P : Program} {w : World} {H : Hp} {Q : VK} {QB : Bool → Hp → Prop} {σ : L2.St} {ta tb tc te tv : TE} {D : Ends} {f : Str} {c : Nat} {z : List Nat} {r r' : R2}
theorem s_in (h : Q (.bl (decide (c ∈ z))) H) : zIn K (sv [c]) (sv z) H Q := h
theorem Z1e (h : Q (.bl (!decide (c ∈ z))) H) : Zm3 K (sv [c]) (sv z) H Q := h
theorem Z1h (h : ta σ H fun x H1 => tb σ H1 fun y H2 => r x y H2 fun z H3 => ∃ k, z = .bl k ∧ (if k = true then tc σ H3 fun w' H4 => r' y w' H4 Q else Q (.bl false) H3)) : tChain r r' ta tb tc σ H Q := h
theorem Z3u (h : tv σ H fun y H1 => ta σ H1 fun x H2 => ∃ a C dx fs, x = .ref a ∧ H2 a = some (.ins C dx fs) ∧ Cls K C ∧ NoAttr K C f ∧ fs.length < 1000 ∧ D.nx σ (upd H2 a (.ins C dx (putF f y fs)))) : sFld K ta tv f D σ H := h
theorem Z7s (h : te σ H fun x H1 => ∃ a C dx fs v, x = .ref a ∧ H1 a = some (.ins C dx fs) ∧ Cls K C ∧ NoAttr K C f ∧ fs.lookup f = some v ∧ Q v H1) : tFld K te f σ H Q := h
theorem Z4a (h : te σ H fun x H1 => ∃ C mc v u, x = .ref C ∧ CRead K C mc ∧ CVal K C mc f v u ∧ Q v H1) : tCVal K te f σ H Q := h
theorem Z3r {b : Bool} {QP : Bool → Prop} (q : QP b) : ∃ k, TruV K (.bl b) H k ∧ QP k := ⟨b, rfl, q⟩
theorem Z4c (h : ta σ H fun x H1 => ∃ c, x = .bl c ∧ if c = true then tb σ H1 Q else Q (.bl false) H1) : tAndV ta tb σ H Q := h
theorem Z7h (h : ta σ H fun x H1 => ∃ c, x = .bl c ∧ if c = true then Q (.bl true) H1 else tb σ H1 Q) : tOrV ta tb σ H Q := h
theorem Z3z (h : ta σ H fun x H1 => ∃ c, x = .bl c ∧ Q (.bl (!c)) H1) : tNotV ta σ H Q := h
theorem Zt3 (h : Q (.bl false) H) : Zkd .non .non H Q := by
 show Q (.bl (!decide (V.non = V.non))) H
 rw [decide_eq_true rfl]
 exact h
theorem Z35 (h : Q (.bl true) H) : zIs .non .non H Q := by
 show Q (.bl (decide (V.non = V.non))) H
 rw [decide_eq_true rfl]
 exact h
theorem Z36 {a b : Bool} (h : Q (.bl (decide (a = b))) H) : zIs (.bl a) (.bl b) H Q := h
theorem Zt4 {a b : Bool} (h : Q (.bl (!decide (a = b))) H) : Zkd (.bl a) (.bl b) H Q := h
theorem Z3v {te : TE} (h : te σ H fun x H1 => ∃ z, x = sv z ∧ z.length ≤ sizeLine ∧ Q (sv z.reverse) H1) : Z66 te σ H Q := h
end
theorem Z1f {C : Addr} {sp : Sp} {dvs : List V} {E : L2.St → XK} {t : TA} {σ : L2.St} {H : Hp} {Q : VK} (h : t σ H fun vs H1 => ∀ x dx, H1 x = none → H1 dx = none → dx ≠ x → sp (.ref x :: (vs ++ dvs)) (upd (upd H1 dx (.own x)) x (.ins C dx [])) (fun v H2 => v = .non ∧ Q (.ref x) H2) (E σ)) : Z3m C sp dvs E t σ H Q := h
theorem Z33 {C : Addr} {sp : Sp} {dvs : List V} {E : XK} {t : TA} {σ : L2.St} {H : Hp} {Q : VK} (h : t σ H fun vs H1 => ∀ x dx, H1 x = none → H1 dx = none → dx ≠ x → sp (.ref x :: (vs ++ dvs)) (upd (upd H1 dx (.own x)) x (.ins C dx [])) (fun v H2 => v = .non ∧ Q (.ref x) H2) E) : tMake C sp dvs E t σ H Q := h
theorem Z2y {α : Type} (z : List α) (lo hi : Option Int) : (cut z lo hi).Sublist z := (Hl _ _).trans (List.drop_sublist _ _)
theorem Zhn {l : List Nat} (h : l.Pairwise (· < ·)) : l.Nodup := h.imp fun h => Gq h
abbrev txL : List Nat := [108, 101, 116, 116, 101, 114, 115]
abbrev txV : List Nat := [118, 111, 119, 101, 108, 115]
section
variable {X : Cx}
def zNeg : V → Hp → VK → Prop := fun x H Q => match x with
 | .int i => Q (.int (-i)) H
 | _ => False
theorem Z4n : UnR X (unaryOp .USub) zNeg := by
 intro pins s σ H x v Q I rx h
 cases x with
 | int i => exact un_neg pins s σ H _ v Q I rx ⟨i, rfl, h⟩
 | _ => exact (show False from h).elim
def Z62 (K : PySem.W.Frag) : List V → Hp → VK → Prop := fun xs H Q => match xs with
 | [.bl k] => Q (.bl k) H
 | _ => False
end
section
variable {K : PySem.W.Frag} {P : Program} {w : World} {H : Hp} {Q : VK} {σ : L2.St} {ta tb te td ty tx : TE} {t : TA} {D : Ends} {C : Addr} {f m : Str}
theorem Z7k {i : Int} (h : Q (.int (-i)) H) : zNeg (.int i) H Q := h
theorem s_un {r : V → Hp → VK → Prop} (h : ta σ H fun x H1 => r x H1 Q) : tUn r ta σ H Q := h
theorem s_bool {k : Bool} (h : Q (.bl k) H) : Z62 K [.bl k] H Q := h
theorem Z32 {sp : Sp} {dvs : List V} {E : XK} (h : ta σ H fun x H1 => ∃ a dx fs, x = .ref a ∧ H1 a = some (.ins C dx fs) ∧ fs.lookup m = none ∧ t σ H1 fun vs H2 => sp (x :: (vs ++ dvs)) H2 Q E) : tMeth C m sp dvs E ta t σ H Q := h
theorem Z7t (h : ta σ H fun x H1 => ∃ a C dx fs v u, x = .ref a ∧ H1 a = some (.ins C dx fs) ∧ Cls K C ∧ Con K C f v u ∧ fs.lookup f = none ∧ Q v H1) : tCon K ta f σ H Q := h
theorem Z39 {trs : List (TE × TE)} (h : ∀ p, H p = none → tPairs trs σ (upd H p (.dK [])) fun ps H2 => H2 p = some (.dK []) ∧ ∃ kvs : List (Key × V), ps = kvs.map (fun kv => (kV kv.1, kv.2)) ∧ kvs.length ≤ 15 ∧ Q (.ref p) (upd H2 p (.dK (mergeK [] kvs)))) : tDisp trs σ H Q := h
theorem Z3y {trs : List (TE × TE)} {QP : List (V × V) → Hp → Prop} (h : ta σ H fun x H1 => tb σ H1 fun y H2 => tPairs trs σ H2 fun ps H3 => QP ((x, y) :: ps) H3) : tPairs ((ta, tb) :: trs) σ H QP := h
theorem Z3w {QP : List (V × V) → Hp → Prop} (h : QP [] H) : tPairs [] σ H QP := h
theorem Z1g (h : td σ H fun x H1 => ∃ a, x = .ref a ∧ IsD H1 a ∧ ty σ H1 fun y H2 => tx σ H2 fun z H3 => ∃ o, DGet H3 a y o ∧ Q (o.getD z) H3) : tDGet2 td ty tx σ H Q := h
end
structure ICls (K : PySem.W.Frag) (C : Addr) : Prop where
 ha : PySem.W.findIn K (.ref C) "__class__" = some (some (.builtin "object.__class__"))
 hn : PySem.W.specialIn K (.builtin "object.__class__") "__get__" = some (some (.builtin "getset_descriptor.__get__"))
 htk : PySem.W.takesIn K (.builtin "object.__class__") = some true
 hm : PySem.W.mroIn K C (.type "object") = some true
def Z59 (K : PySem.W.Frag) (C : Addr) : Bool := decide (PySem.W.findIn K (.ref C) "__class__" = some (some (.builtin "object.__class__"))) && (decide (PySem.W.specialIn K (.builtin "object.__class__") "__get__" = some (some (.builtin "getset_descriptor.__get__"))) && (decide (PySem.W.takesIn K (.builtin "object.__class__") = some true) && decide (PySem.W.mroIn K C (.type "object") = some true)))
theorem Zx5 {K : PySem.W.Frag} {C : Addr} (h : Z59 K C = true) : ICls K C := by
 obtain ⟨h1, h⟩ := ba h
 obtain ⟨h2, h⟩ := ba h
 obtain ⟨h3, h4⟩ := ba h
 exact ⟨of_decide_eq_true h1, of_decide_eq_true h2, of_decide_eq_true h3, of_decide_eq_true h4⟩
theorem Z34 {K : PySem.W.Frag} {a C dx : Addr} {fs : List (Str × V)} {c : V} {u : Value} {b : Bool} {H : Hp} {Q : VK} (e : H a = some (.ins C dx fs)) (cl : Cls K C) (i : ICls K C) (k : ClsV c u) (hk : PySem.W.kitOne K (.ref C) u = some b) (q : Q (.bl b) H) : zIsi K [.ref a, c] H Q :=
 Or.inr ⟨_, _, _, _, b, rfl, k, .base (.ins e cl i.ha i.hn i.htk i.hm), hk, q⟩
def Al (K : PySem.W.Frag) (H : Hp) (p : Addr) (ls vw : List Nat) : Prop := ∃ dx, H p = some (.ins (ga K "Alphabet") dx (Z9h ls vw (cons ls vw) (45 :: ls)))
theorem Al.same {K : PySem.W.Frag} {H H' : Hp} {p : Addr} {ls vw : List Nat} (a : Al K H p ls vw) (s : Same H H') : Al K H' p ls vw := let ⟨dx, e⟩ := a; ⟨dx, s _ _ e⟩
theorem Z3n {l m : List Nat} (p : l.Perm m) (h : m.Pairwise (· < ·)) : srt l = m :=
 Lo (fun a b _ _ h1 h2 => Nat.le_antisymm h1 h2) (Zyv l) (h.imp fun h => Tc h) ((Zk9 l).trans p)
abbrev txA : List Nat := [97, 108, 108]
abbrev txC : List Nat := [99, 111, 110, 115, 111, 110, 97, 110, 116, 115]
abbrev txJ : List Nat := [106, 111, 105, 110, 116, 115]
abbrev txS : List Nat := [115, 101, 116]
def inner (z : List Nat) : List Nat := cut z (some 1) (some (-1))
def isW (ls z : List Nat) : Bool := z.all fun c => decide (c ∈ 45 :: ls)
def okS (ls z : List Nat) : Prop := 3 ≤ z.length ∧ atI z 0 = some 91 ∧ atI z (-1) = some 93 ∧ isW ls (inner z) = true ∧ (inner z).Pairwise (· < ·)
def okN (ls z : List Nat) : Prop := z = txA ∨ z = txL ∨ z = txV ∨ z = txC ∨ z = txJ ∨ okS ls z
def mem (ls vw z : List Nat) : List Nat := if z = txA then 45 :: ls else if z = txL then ls else if z = txV then vw else if z = txC then cons ls vw else if z = txJ then [45] else inner z
def Zei (K : PySem.W.Frag) : Sp := fun vs H Q _ => ∃ (a b : Addr) (ls vw ls' vw' : List Nat), vs = [.ref a, .ref b] ∧ Al K H a ls vw ∧ Al K H b ls' vw' ∧ Q (.bl (decide (ls = ls') && decide (vw = vw'))) H
structure Zcd (N P : List Str) (sc : Scope) : Prop where
 kind : sc.kind = .function
 co : sc.isCoroutine = false
 gen : sc.isGenerator = false
 nd : N.Nodup
 pre : N.take P.length = P
 par : ∀ x ∈ P, sc.names.lookup x = some .local
 nocell : ∀ y ∈ sc.names, y.2 ≠ .cell
 free : ∀ y ∈ sc.names, y.2 = .free → y.1 = "__class__"
def cxS (CX : CXT) (P : Program) (w : World) (K : PySem.W.Frag) (mg : Str → Option Value) (base : Heap) (N : List Str) (qual : Str) (scope : Scope) (f : Addr) (cd : Value) (cc : Addr) (A : Around) (outer : List Env) (s : Shared) (H : Hp) (E : XK) : Cx where
 prog := P
 w := w
 K := K
 mg := mg
 base := base
 A := A.deeper (PySem.W.ksEnv qual scope s.heap.objs.size f cd cc)
 N := N
 s_0 := s
 H_0 := H
 env := PySem.W.ksEnv qual scope s.heap.objs.size f cd cc
 outer := outer
 stack := PySem.W.ksEnv qual scope s.heap.objs.size f cd cc :: outer
 ex := []
 calm := true
 fn := fun y => !decide (y = ("__class__" : Str))
 pn := []
 xe := fun e s' => wpAny (model P w) (A.deeper (PySem.W.ksEnv qual scope s.heap.objs.size f cd cc)) (leaving (PySem.W.ksEnv qual scope s.heap.objs.size f cd cc) e) (fun _ s'' => CX outer H s E e s'') (fun e' s'' => CX outer H s E e' s'') s'
theorem Zmc {k : Str} : ∀ {l r : List (Str × Value)}, (l ++ r).lookup k = match l.lookup k with | some v => some v | none => r.lookup k
 | [], r => rfl
 | (a, v) :: l, r => by
  rw [List.cons_append, Q7, Q7]
  cases h : (k == a) with
  | true => rfl
  | false => exact Zmc (l := l)
theorem Zn7 {k : Str} : ∀ {l : List (Str × Value)}, (∀ v, (k, v) ∉ l) → l.lookup k = none
 | [], _ => rfl
 | (a, v) :: l, h => by
  rw [Q7]
  cases q : (k == a) with
  | true => exact absurd (by rw [eq_of_beq q]; exact Qp) (h v)
  | false => exact Zn7 fun u hu => h u (Qh _ hu)
theorem Zt9 {x : Str} {u : Value} : ∀ {P : List Str} {us : List Value} {i : Nat}, P.Nodup → P[i]? = some x → us[i]? = some u → (P.zip us).reverse.lookup x = some u
 | [], _, _, _, h, _ => by simp at h
 | _ :: _, [], _, _, _, h => by simp at h
 | p :: P, v :: us, 0, nd, h1, h2 => by
  simp at h1 h2
  subst h1
  subst h2
  rw [Lj, Gx, Zmc, Zn7 fun w hw => (Hd.mp nd).1 (List.of_mem_zip (List.mem_reverse.mp hw)).1]
  rw [Q7, beq_self_eq_true]
 | p :: P, v :: us, i + 1, nd, h1, h2 => by
  rw [Lj, Gx, Zmc, Zt9 (i := i) (Hd.mp nd).2 (by simpa using h1) (by simpa using h2)]
theorem Zfu {cc c : Addr} {y : Str} (h : ([(("__class__" : Str), cc)]).lookup y = some c) : y = "__class__" ∧ c = cc := by
 rw [Q7] at h
 cases q : (y == ("__class__" : Str)) with
 | true =>
  rw [q] at h
  exact ⟨eq_of_beq q, (Qx h).symm⟩
 | false =>
  rw [q] at h
  cases h
section
variable {CX : CXT} {P : Program} {w : World} {K : PySem.W.Frag} {mg : Str → Option Value} {base : Heap} {N ps : List Str} {qual : Str} {scope : Scope} {f cc : Addr} {cd : Value} {A : Around} {outer : List Env} {s : Shared} {H : Hp} {E : XK} {us : List Value} {vs : List V}
theorem Zsi {h1 : Heap} {tk : Nat} {ocl : Obj} {dv : Option Value}
  (S : Zcd N ps scope) (hd : A.handled = none) (e0 : Env0 P w K mg base A outer s H) (hl : vs.length = ps.length) (r : Vals vs us) (hcc : K.lookup cc = some ocl) (hcd : ocl.data = .cell dv)
  (hns : h1.Ns s.heap.objs.size (fun x => (ps.zip us).reverse.lookup x)) (hk : ∀ b o, s.heap.get? b = some o → h1.get? b = some o) :
  Inv (cxS CX P w K mg base N qual scope f cd cc A outer s H E) [] (start N vs) H { s with heap := h1, toks := tk } := by
 have hpl : ps.length ≤ N.length := by have := congrArg List.length S.pre; rw [Qw] at this; omega
 have noA : ∀ b : Addr, b ∉ (cxS CX P w K mg base N qual scope f cd cc A outer s H E).ex := fun b z => absurd (show b ∈ ([] : List Addr) from z) (by simp)
 have hb := e0.bs _ _ (e0.mod.kin _ _ hcc)
 refine ⟨⟨e0.mod, S.kind, rfl, rfl, Qz _, fun y z c h1 h2 => ?_, fun y hy => ?_, fun y c hf h => ?_, fun _ => hd, Around.frames_deeper e0.frames, .inr ⟨rfl, rfl⟩, fun b z => absurd z (noA b), e0.bs, e0.bsz, fun b _ _ => noA b, fun b z => absurd z (noA b), e0.funs, e0.frf⟩,
  rfl, e0.bare, Un.kept hk, ⟨_, hns, fun i y v h1 h2 h3 => ?_⟩, fun y c h => ?_, e0.hok.fresh (Qz _), fun y c h => ?_, fun p hp => absurd (show p ∈ ([] : List (Addr × Obj)) from hp) (by simp), e0.hok.kept hk, ?_⟩
 ·exact (Zfu h1).1.trans (Zfu h2).1.symm
 ·have hy : scope.names.lookup y = some .cell ∨ scope.names.lookup y = some .free := hy
  rcases hy with hy | hy
  ·exact absurd rfl (S.nocell _ (PySem.mem_of_lookup hy))
  ·have := S.free _ (PySem.mem_of_lookup hy) rfl
   dsimp only at this
   subst this
   exact ⟨cc, by show List.lookup _ [_] = _; rw [Q7, beq_self_eq_true]⟩
 ·have := (Zfu h).1
  subst this
  exact absurd hf (by show ¬ ((!decide (("__class__" : Str) = "__class__")) = true); rw [decide_eq_true rfl]; decide)
 ·have hi : i < vs.length := by
   unfold L2.start at h2
   by_cases hi : i < vs.length
   ·exact hi
   ·rw [Ho (by simpa using hi)] at h2
    rw [Lx] at h2
    split at h2 <;> cases h2
  have ha : vs[i]? = some v := by
   unfold L2.start at h2
   rw [Q0 (by simpa using hi), Ql] at h2
   cases e : vs[i]? with
   | none => rw [e] at h2; cases h2
   | some a => rw [e] at h2; cases h2; rfl
  obtain ⟨u, hu, rv⟩ := r.get ha
  have hp : ps[i]? = some y := by
   rw [← S.pre, Hc (by omega)]; exact h1
  have ndP : ps.Nodup := by rw [← S.pre]; exact S.nd.sublist (Hl _ _)
  exact ⟨u, rv, .inl ⟨S.par y (Qr hp), Zt9 ndP hp hu⟩⟩
 ·obtain ⟨_, rfl⟩ := Zfu h
  exact ⟨dv, _, hk _ _ hb.1, hcd⟩
 ·obtain ⟨_, rfl⟩ := Zfu h
  exact hb.2
 ·unfold L2.start
  show _ = N.length
  rw [Qc, Qb, List.length_replicate]
  omega
end
structure PEa (X : Cx) (b : List Stmt) (e : Expr) (t : TE) : Prop where
 run : ∀ (pins : List (Addr × Obj)) (s : Shared) (σ : L2.St) (H : Hp) (Q : VK), Inv X pins σ H s → t σ H Q → PySem.wpAt (model X.prog X.w) X.A (.func b X.env) (eval e X.env) (EP X pins σ Q) X.xe s
structure PSa (X : Cx) (b : List Stmt) (st : Stmt) (t : TS) : Prop where
 run : ∀ (pins : List (Addr × Obj)) (s : Shared) (σ : L2.St) (H : Hp) (D : Ends), Inv X pins σ H s → t D σ H → PySem.wpAt (model X.prog X.w) X.A (.func b X.env) (exec st X.env) (SP X pins D) X.xe s
structure PSsa (X : Cx) (b : List Stmt) (st : List Stmt) (t : TS) : Prop where
 run : ∀ (pins : List (Addr × Obj)) (s : Shared) (σ : L2.St) (H : Hp) (D : Ends), Inv X pins σ H s → t D σ H → PySem.wpAt (model X.prog X.w) X.A (.func b X.env) (execs st X.env) (SP X pins D) X.xe s
section
variable {X : Cx} {b : List Stmt} {e : Expr} {te : TE} {st : Stmt} {rest : List Stmt} {t u : TS} {pos : Pos}
theorem PE.a (h : PE X e te) : PEa X b e te := ⟨fun pins s σ H Q I q => PySem.wpAt_of_wpAny (h.run pins s σ H Q I q)⟩
theorem PSs.a (h : PSs X rest t) : PSsa X b rest t := ⟨fun pins s σ H D I q => PySem.wpAt_of_wpAny (h.run pins s σ H D I q)⟩
theorem thnA {α : Type} {m : Sem α} {Q Q' : α → Shared → Prop} {M : Model} {A : Around} {c : Code} {E : Value → Shared → Prop} {s : Shared} (h : PySem.wpAt M A c m Q E s) (hQ : ∀ a s, Q a s → Q' a s) : PySem.wpAt M A c m Q' E s := PySem.ks_wpAt_mono h hQ fun _ _ x => x
theorem Zfe (h1 : PSa X b st t) (h2 : PSsa X b rest u) : PSsa X b (st :: rest) (tSeq t u) := by
 refine ⟨fun pins s σ H D I h => ?_⟩
 refine PySem.ks_wpAt_execs_cons (thnA (h1.run pins s σ H { D with nx := u D } I h) fun f s1 q => ?_)
 cases f with
 | next =>
  obtain ⟨σ', H', I', q⟩ := q
  exact h2.run pins s1 σ' H' D I' q
 | ret v => exact q
 | brk => exact q
 | cont => exact q
theorem Zq4 (h1 : PSa X b st t) : PSsa X b [st] t := by
 refine ⟨fun pins s σ H D I h => ?_⟩
 refine PySem.ks_wpAt_execs_cons (thnA (h1.run pins s σ H D I h) fun f s1 q => ?_)
 cases f with
 | next => exact PySem.wpAt_of_wpAny (wpAny_execs_nil q)
 | ret v => exact q
 | brk => exact q
 | cont => exact q
theorem Zff (he : PEa X b e te) (hs : swapsWith e none pos.line X.env = pure false := by rfl) : PSa X b (.Expr e pos) (tDrop te) := by
 refine ⟨fun pins s σ H D I h => ?_⟩
 exact PySem.ks_wpAt_Expr_any (thnA (he.run pins s σ H _ I h) fun v s1 ⟨x, H1, I1, r1, q1⟩ => ⟨σ, H1, I1, q1⟩) I.quiet hs
theorem Z1m (he : PEa X b e te) : PSa X b (.Return (some e) pos) (tRet te) := by
 refine ⟨fun pins s σ H D I h => ?_⟩
 exact PySem.ks_wpAt_Return_some (thnA (he.run pins s σ H _ I h) fun v s1 ⟨x, H1, I1, r1, q1⟩ => ⟨x, σ, H1, I1, r1, q1⟩)
theorem Z4l {l r : Expr} {op : Operator} {rr : R2} {ta tb : TE} (ho : OpR X (binaryOp op) rr) (hl : PEa X b l ta) (hr : PEa X b r tb) : PEa X b (.BinOp l op r pos) (tOp rr ta tb) := by
 refine ⟨fun pins s σ H Q I h => ?_⟩
 refine PySem.ks_wpAt_BinOp2 (thnA (hl.run pins s σ H _ I h) fun v s1 ⟨x, H1, I1, r1, q1⟩ => thnA (hr.run pins s1 σ H1 _ I1 q1) fun v2 s2 ⟨y, H2, I2, r2, q2⟩ => ?_)
 exact ho pins s2 σ H2 x y v v2 Q I2 r1 r2 q2
end
theorem Z6f {CX : CXT} {P : Program} {w : World} {K : PySem.W.Frag} {mg : Str → Option Value} {base : Heap} {k : Nat} {f cc : Addr} {name qual : Str} {params : Arguments} {body : List Stmt} {scope : Scope} {dV kV doc pm cdv ct oc : Value} {an od : Option Addr}
  {osl : Array (Option Value)} {N ps : List Str} {sp : Sp} {ocl : Obj} {dv : Option Value} (lk : K.lookup f = some ⟨oc, od, .func (PySem.W.ksFn name qual params body scope dV kV doc pm an cdv ct cc), osl⟩) (hcd : PySem.W.codeIn K cdv qual = true) (hcc : K.lookup cc = some ocl) (hcv : ocl.data = .cell dv)
  (S : Zcd N ps scope) (len : ∀ vs H Q E, sp vs H Q E → vs.length = ps.length)
  (hbody : ∀ (A : Around) (outer : List Env) (s : Shared) (H : Hp) (vs : List V) (Q : VK) (E : XK), Room k (A.deeper (PySem.W.ksEnv qual scope s.heap.objs.size f cdv cc)) → sp vs H Q E →
   ∃ t, PSsa (cxS CX P w K mg base N qual scope f cdv cc A outer s H E) body body t ∧ t { nx := fun _ H' => Q .non H', rt := Q } (start N vs) H) :
  FnOk P w K mg base CX (k + 1) f (PySem.W.ksFn name qual params body scope dV kV doc pm an cdv ct cc) ps sp := by
 refine ⟨len, fun A outer s H args us vs Q E hr e0 hb r hsp => ?_⟩
 have hl := len _ _ _ _ hsp
 have KX : K.In s.heap := e0.mod.kin.keeps fun b o e => (e0.bs b o e).1
 have lim : s.heap.NoLimit := e0.mod.nolimit.keeps fun b o e => (e0.bs b o e).1
 refine PySem.ks_codeAny_call_defAt (fd := PySem.W.ksFn name qual params body scope dV kV doc pm an cdv ct cc) hr.depth (KX _ _ lk) rfl lim (PySem.W.codeRec_of KX hcd) rfl hb S.nocell (fun y hy => S.par y.1 (List.of_mem_zip hy).1) (fun h1 hns hk => ?_) S.co S.gen S.kind
 obtain ⟨t, ht, hq⟩ := hbody A outer s H vs Q E (hr.deeper _) hsp
 have I : Inv (cxS CX P w K mg base N qual scope f cdv cc A outer s H E) [] (start N vs) H { s with heap := h1, toks := s.toks + (ps.zip us).length } := Zsi S hr.hd e0 hl r hcc hcv hns hk
 refine PySem.ks_wpAt_mono (ht.run [] _ (start N vs) H _ I hq) (fun fl s' hs => ?_) fun e s' hs => hs
 have fin : ∀ {σ' : L2.St} {H' : Hp} {v : V} {u : Value}, Inv (cxS CX P w K mg base N qual scope f cdv cc A outer s H E) [] σ' H' s' → RelV v u → Q v H' → CE outer P w H s Q u s' :=
  fun {σ' H' v u} J rv q => ⟨v, H', J.os, J.bare, J.base, J.hok, rv, q⟩
 cases fl with
 | ret u =>
  obtain ⟨v, σ', H', J, rv, q⟩ := hs
  exact fin J rv q
 | next =>
  obtain ⟨σ', H', J, q⟩ := hs
  exact fin (v := V.non) (u := Value.none) J rfl q
 | brk =>
  obtain ⟨_, _, _, q⟩ := hs
  exact False.elim q
 | cont =>
  obtain ⟨_, _, _, q⟩ := hs
  exact False.elim q
structure Sup (K : PySem.W.Frag) (C D : Addr) (m : Str) (g : Addr) : Prop where
 sub : PySem.W.mroIn K C (.ref D) = some true
 at_ : PySem.W.ks_superIn K C D m = some (some (.ref g))
structure SupD (K : PySem.W.Frag) (prog : Program) (f cc D : Addr) (cdv : Value) : Prop where
 fn : ∃ oc od fd osl ar, K.lookup f = some ⟨oc, od, .func fd, osl⟩ ∧ (fd.params.posonlyargs ++ fd.params.args).head? = some ar ∧ ar.arg = "self"
 code : ∃ cda ccl cdd vs ccs file tf, cdv = .ref cda ∧ K.lookup cda = some ⟨ccl, cdd, .fields vs, ccs⟩ ∧ vs[2]? = some (.str file tf) ∧ ((prog.main.file : Str) == file) = true
 cell : ∃ cl cld csl, K.lookup cc = some ⟨cl, cld, .cell (some (.ref D)), csl⟩
 cls : (PySem.W.clsIn K D).isSome = true
 no : PySem.W.nsIn K PySem.cStatics "thirdparty.any" = some none
 top : (prog.main.scope.names.lookup ("super" : Str)).isSome = false
def tSup (K : PySem.W.Frag) (D : Addr) (m : Str) (g : Addr) (sp : Sp) (E : XK) (t : TA) : TE := fun σ H Q => ∃ a C dx fs, σ[0]? = some (some (.ref a)) ∧ H a = some (.ins C dx fs) ∧ Sup K C D m g ∧ t σ H fun vs H2 => sp (.ref a :: vs) H2 Q E
section
variable {CX CX' : CXT} {P : Program} {w : World} {K : PySem.W.Frag} {mg : Str → Option Value} {base : Heap} {N : List Str} {qual : Str} {scope : Scope} {f cc D g : Addr} {cd : Value} {A : Around} {outer : List Env} {s0 : Shared} {H0 : Hp} {E0' : XK} {b : List Stmt}
variable {k : Nat} {sp : Sp} {E : XK} {m : Str} {p0 p1 apos pos : Pos} {pl : Sem Bool}
theorem Zo6 (d : SupD K P f cc D cd) (hm : mg "super" = none) (hks : scope.names.lookup ("super" : Str) = some .globalImplicit) (hkc : scope.names.lookup ("__class__" : Str) = some .free) (hself : scope.names.lookup ("self" : Str) = some .local) (h0 : N[0]? = some ("self" : Str))
  (hat : (m == ("__class__" : Str)) = false) {pins : List (Addr × Obj)} {σ : L2.St} {H : Hp} {s : Shared} (I : Inv (cxS CX P w K mg base N qual scope f cd cc A outer s0 H0 E0') pins σ H s) {a C dx : Addr} {fs : List (Str × V)} (ha : σ[0]? = some (some (.ref a))) (hi : H a = some (.ins C dx fs)) (sup : Sup K C D m g) (hg : PySem.W.typeIn K (.ref g) = some (.type "function"))
  {whole : Sem Value} {Q : Value × List Value → Shared → Prop} {Ex : Value → Shared → Prop}
  (h : ∀ q s', base.get? q = none → Inv (cxS CX P w K mg base N qual scope f cd cc A outer s0 H0 E0') ((q, PySem.W.methodObj (.ref g) (.ref a)) :: pins) σ H s' → Q (.ref q, []) s') :
  PySem.wpAt (model P w) (A.deeper (PySem.W.ksEnv qual scope s0.heap.objs.size f cd cc)) (.func b (PySem.W.ksEnv qual scope s0.heap.objs.size f cd cc)) (attributeBase (.Call (.Name "super" p0) [] [] p1) m (PySem.W.ksEnv qual scope s0.heap.objs.size f cd cc) whole)
   (fun ov s1 => wpAny (model P w) (A.deeper (PySem.W.ksEnv qual scope s0.heap.objs.size f cd cc)) (getMethod ov m pl) Q Ex s1) Ex s := by
 obtain ⟨oc, od, fd, osl, ar, lk, hp, har⟩ := d.fn
 obtain ⟨hh, gg, dd, tt, os⟩ := s
 obtain ⟨cda, ccl, cdd, vs, ccs, file, tf, rfl, hcode, hvs, hfile⟩ := d.code
 obtain ⟨cl, cld, csl, hcell⟩ := d.cell
 have X : K.In hh := I.kIn
 obtain ⟨oD, cdD, hD1, hD2⟩ : ∃ (oD : Obj) (cdD : ClassData), hh.get? D = some oD ∧ oD.data = .cls cdD := by
  have hc := d.cls
  unfold PySem.W.clsIn at hc
  split at hc
  ·rename_i c d cd' sl ho
   exact ⟨_, _, X _ _ ho, rfl⟩
  ·cases hc
 refine PySem.ks_wpAt_super_base (env := PySem.W.ksEnv qual scope s0.heap.objs.size f (.ref cda) cc) hks hkc hat rfl (X _ _ lk) rfl hp rfl (X _ _ hcode) rfl hvs hfile d.top ?_
 obtain ⟨mb, hb1, hb2⟩ := I.mod.blt
 have kd : scope.kind = .function := I.ok.kind
 refine PySem.W.ks_loadName_global kd hks (Calls.loadGlobal_builtin (env := PySem.W.ksEnv qual scope s0.heap.objs.size f (.ref cda) cc) (I.mod.glob.keeps I.bk) hm (hb1.keeps I.bk) ((hb2 _ (by decide +kernel)).trans Boot.super) ⟨rfl, ?_⟩)
 refine wpAny_loadName_free kd hkc (by show List.lookup _ [_] = _; rw [Q7, beq_self_eq_true]) ⟨_, X _ _ hcell, rfl⟩ ?_
 rw [har]
 obtain ⟨mL, hn, hl⟩ := I.loc
 obtain ⟨u, r, l⟩ := hl 0 "self" (.ref a) h0 ha (.inl hself)
 obtain rfl : u = .ref a := r
 have hms : mL "self" = some (.ref a) := by
  rcases l with ⟨_, l⟩ | ⟨hk, _⟩
  ·exact l
  ·have hk : scope.names.lookup ("self" : Str) = some .cell ∨ scope.names.lookup ("self" : Str) = some .free := hk
   rw [hself] at hk
   rcases hk with hk | hk <;> cases hk
 refine wpAny_loadName_local kd hself hn hms ?_
 refine PySem.ks_wpAny_isType_cls hD1 hD2 ⟨rfl, ?_⟩
 obtain ⟨mA, J, _⟩ := ins_get I.hok hi
 obtain ⟨odx, J, _⟩ := J.look
 refine PySem.ks_wpAny_call_super hD1 hD2 J.at_ J.cls (fun c e => ?_) (PySem.W.looks_mroIn X sup.sub) (fun h' e k => ?_)
 ·have := J.no
  unfold PySem.W.notCls at this
  rw [e] at this
  exact Bool.noConfusion this
 have I1 := pin_new (o := PySem.W.ks_superObj D a C) (h' := h') (t' := tt) I k (Qz _) e (fun v z => nomatch z)
 have X1 : K.In h' := I1.kIn
 have hm' := sup.at_
 cases hc : PySem.W.clsIn K C with
 | none => unfold PySem.W.ks_superIn at hm'; rw [hc] at hm'; cases hm'
 | some cdC =>
  unfold PySem.W.ks_superIn at hm'
  rw [hc] at hm'
  obtain ⟨of, hof, hofc⟩ : ∃ of, h'.get? g = some of ∧ of.cls = .type "function" := by
   have ht' : (K.lookup g).map (·.cls) = some (.type "function") := hg
   cases z : K.lookup g with
   | none => rw [z] at ht'; cases ht'
   | some of => rw [z] at ht'; exact ⟨of, X1 _ _ z, Qx ht'⟩
  refine PySem.ks_wpAny_getMethod_super e (PySem.W.looks_opaque X1 d.no) (l₀ := cdC.mro) ?_ rfl X1 hm' hof hofc (PySem.W.ks_ne X J hc) hat ?_
  ·exact fun A Q E s k q => wpAny_bind ((PySem.W.looks_clsIn X1 hc) A _ E s k (wpAny_pure q))
  ·exact h _ _ (base_none (unpin I1) (Qz _)) (met_new (g := g) (C := a) (unpin I1))
theorem Zl9 {e : Expr} {es : List Expr} {t : TA} (d : SupD K P f cc D cd) (hm : mg "super" = none) (hg : PySem.W.typeIn K (.ref g) = some (.type "function")) (hgi : PySem.W.fnIn K g = true) (F : FnR P w K mg base CX' k g sp) (hr : Room k (A.deeper (PySem.W.ksEnv qual scope s0.heap.objs.size f cd cc)))
  (hx : Passes CX' (cxS CX P w K mg base N qual scope f cd cc A outer s0 H0 E0') E) (ha : PA (cxS CX P w K mg base N qual scope f cd cc A outer s0 H0 E0') (e :: es) t)
  (hks : scope.names.lookup ("super" : Str) = some .globalImplicit := by rfl) (hkc : scope.names.lookup ("__class__" : Str) = some .free := by rfl) (hself : scope.names.lookup ("self" : Str) = some .local := by rfl) (h0 : N[0]? = some ("self" : Str) := by rfl) (hat : (m == ("__class__" : Str)) = false := by decide)
  (hst : starEach (e :: es) (PySem.W.ksEnv qual scope s0.heap.objs.size f cd cc) = (false, eval e (PySem.W.ksEnv qual scope s0.heap.objs.size f cd cc)) :: starEach es (PySem.W.ksEnv qual scope s0.heap.objs.size f cd cc) := by rfl)
  (hpl : (backTo pos (starEach es (PySem.W.ksEnv qual scope s0.heap.objs.size f cd cc))).any (·.1) = false := by rfl)
  (he : eval (.Call (.Attribute (.Call (.Name "super" p0) [] [] p1) m apos) (e :: es) [] pos) (PySem.W.ksEnv qual scope s0.heap.objs.size f cd cc) = (do
   let ov ← attributeBase (.Call (.Name "super" p0) [] [] p1) m (PySem.W.ksEnv qual scope s0.heap.objs.size f cd cc) (eval (.Call (.Name "super" p0) [] [] p1) (PySem.W.ksEnv qual scope s0.heap.objs.size f cd cc))
   standAt apos.atName
   let (fv, first) ← holding [ov] (getMethod ov m pl)
   callWith pos fv first (backTo pos (starEach (e :: es) (PySem.W.ksEnv qual scope s0.heap.objs.size f cd cc))) []) := by rfl) :
  PEa (cxS CX P w K mg base N qual scope f cd cc A outer s0 H0 E0') b (.Call (.Attribute (.Call (.Name "super" p0) [] [] p1) m apos) (e :: es) [] pos) (tSup K D m g sp E t) := by
 refine ⟨fun pins s σ H Q I h => ?_⟩
 obtain ⟨a, C, dx, fs, h1, h2, h3, q⟩ := h
 refine PySem.ks_wpAt_MethodCall (pl := pl) (Zo6 d hm hks hkc hself h0 hat I h1 h2 h3 hg fun q' s1 hb I1 => ?_) he
 refine callwith_cm I1 hb hgi (thn (ha.run pos _ s1 σ H _ I1 q) fun us s2 ⟨vs, H2, I2, r, q2⟩ => ⟨?_, ?_⟩) hst hpl
 ·exact ⟨pin_at I2, I2.kIn⟩
 ·exact run_cm F hr hx I2 r q2
theorem Zxg (d : SupD K P f cc D cd) (hm : mg "super" = none) (hg : PySem.W.typeIn K (.ref g) = some (.type "function")) (hgi : PySem.W.fnIn K g = true) (F : FnR P w K mg base CX' k g sp) (hr : Room k (A.deeper (PySem.W.ksEnv qual scope s0.heap.objs.size f cd cc)))
  (hx : Passes CX' (cxS CX P w K mg base N qual scope f cd cc A outer s0 H0 E0') E)
  (hks : scope.names.lookup ("super" : Str) = some .globalImplicit := by rfl) (hkc : scope.names.lookup ("__class__" : Str) = some .free := by rfl) (hself : scope.names.lookup ("self" : Str) = some .local := by rfl) (h0 : N[0]? = some ("self" : Str) := by rfl) (hat : (m == ("__class__" : Str)) = false := by decide)
  (he : eval (.Call (.Attribute (.Call (.Name "super" p0) [] [] p1) m apos) [] [] pos) (PySem.W.ksEnv qual scope s0.heap.objs.size f cd cc) = (do
   let ov ← attributeBase (.Call (.Name "super" p0) [] [] p1) m (PySem.W.ksEnv qual scope s0.heap.objs.size f cd cc) (eval (.Call (.Name "super" p0) [] [] p1) (PySem.W.ksEnv qual scope s0.heap.objs.size f cd cc))
   standAt apos.atName
   let (fv, first) ← holding [ov] (getMethod ov m pl)
   callWith pos fv first (backTo pos (starEach [] (PySem.W.ksEnv qual scope s0.heap.objs.size f cd cc))) []) := by rfl) :
  PEa (cxS CX P w K mg base N qual scope f cd cc A outer s0 H0 E0') b (.Call (.Attribute (.Call (.Name "super" p0) [] [] p1) m apos) [] [] pos) (tSup K D m g sp E tNil) := by
 refine ⟨fun pins s σ H Q I h => ?_⟩
 obtain ⟨a, C, dx, fs, h1, h2, h3, q⟩ := h
 refine PySem.ks_wpAt_MethodCall (pl := pl) (Zo6 d hm hks hkc hself h0 hat I h1 h2 h3 hg fun q' s1 hb I1 => ?_) he
 exact PySem.W.callWith_M0 (first := []) (X := ⟨pin_at I1, I1.kIn⟩) hgi (run_cm F hr hx I1 .nil q)
end
abbrev FnS : Type := Option (Str × Str × Arguments × FuncBody × Scope × Addr × List Str × Addr)
def fnS (K : PySem.W.Frag) (p : Str × Option Str) : FnS := match K.lookup (fAd K p) with
 | some ⟨_, _, .func fd, _⟩ => some (fd.name, fd.qualname, fd.params, fd.body, fd.scope, fd.globals, fd.closure.map (·.1), fd.builtins)
 | _ => none
def valS (d : DefD) : FnS := some (d.name, d.qual, d.params, .stmts d.body, d.scope, mainGlobals, ["__class__"], builtinsNs)
def supB (P : Program) (K : PySem.W.Frag) (D : Str) (d : DefD) : Bool := d.ok K && ((match K.lookup (fAd K d.at_) with
 | some ⟨_, _, .func fd, _⟩ => (match fd.closure with
   | [(_, cc)] => (match K.lookup cc with
    | some ⟨_, _, .cell (some (.ref D')), _⟩ => decide (D' = ga K D)
    | _ => false)
   | _ => false) && ((match (fd.params.posonlyargs ++ fd.params.args).head? with
    | some ar => decide (ar.arg = ("self" : Str))
    | none => false) && (match fd.code with
     | .ref cda => (match K.lookup cda with
      | some ⟨_, _, .fields vs, _⟩ => (match (vs[2]? : Option Value) with
       | some (.str file _) => ((P.main.file : Str) == file)
       | _ => false)
      | _ => false)
     | _ => false))
 | _ => false) && ((PySem.W.clsIn K (ga K D)).isSome && (eqO (PySem.W.nsIn K PySem.cStatics "thirdparty.any") (some none) && !(P.main.scope.names.lookup ("super" : Str)).isSome)))
structure FunS (P : Program) (K : PySem.W.Frag) (x qual : Str) (params : Arguments) (body : List Stmt) (scope : Scope) (dvs : List V) (kws : List (Str × V)) (f : Addr) (fd : FuncData) (D : Addr) : Prop where
 ex : ∃ (oc : Value) (od : Option Addr) (dV kV doc pm : Value) (an : Option Addr) (cdv ct : Value) (osl : Array (Option Value)) (cc : Addr),
  fd = PySem.W.ksFn x qual params body scope dV kV doc pm an cdv ct cc ∧ K.lookup f = some ⟨oc, od, .func fd, osl⟩ ∧ PySem.W.codeIn K cdv qual = true ∧ DflV K dV dvs ∧ KwdV K kV kws ∧ SupD K P f cc D cdv
 kp : PySem.W.keepIn K (.ref f) = true
theorem Z2i {P : Program} {K : PySem.W.Frag} {D : Str} {d : DefD} (e : fnS K d.at_ = valS d) (c : supB P K D d = true) : FunS P K d.name d.qual d.params d.body d.scope (d.dvs K) (d.kws K) (fAd K d.at_) (fdOf K d.at_) (ga K D) := by
 obtain ⟨c1, c⟩ := ba c
 obtain ⟨cA, c⟩ := ba c
 obtain ⟨cB, c⟩ := ba c
 obtain ⟨cC, cE⟩ := ba c
 obtain ⟨kp, c2⟩ := ba c1
 unfold fnS at e
 unfold fdOf
 cases q : K.lookup (fAd K d.at_) with
 | none =>
  rw [q] at c2
  cases c2
 | some o =>
  obtain ⟨oc, od, dt, osl⟩ := o
  rw [q] at c2 e cA
  cases dt with
  | func fd =>
   obtain ⟨n1, n2, n3, n4, n5, n6, n7, n8, n9, n10, n11, n12, n13, n14, n15⟩ := fd
   have e2 : (some (n1, n2, n3, n4, n5, n6, n7.map (·.1), n15) : FnS) = (some (d.name, d.qual, d.params, FuncBody.stmts d.body, d.scope, mainGlobals, [("__class__" : Str)], builtinsNs) : FnS) := e
   simp only [Option.some.injEq, Prod.mk.injEq] at e2
   obtain ⟨h1, h2, h3, h4, h5, h6, h7, h8⟩ := e2
   subst h1 h2 h3 h4 h5 h6 h8
   have c3 : (PySem.W.codeIn K n13 d.qual && (dflB K n8 (d.dvs K) && kwdB K n9 (d.kws K))) = true := c2
   obtain ⟨k1, k2⟩ := ba c3
   obtain ⟨k3, k4⟩ := ba k2
   match n7, h7 with
   | [(y, cc)], h7 =>
    have hy : y = ("__class__" : Str) := by simpa using h7
    subst hy
    obtain ⟨a1, a2⟩ := ba cA
    obtain ⟨a2, a3⟩ := ba a2
    refine ⟨⟨oc, od, n8, n9, n10, n11, n12, n13, n14, osl, cc, rfl, q, k1, dflB_ok k3, kwdB_ok k4, ?_, ?_, ?_, cB, eqO_ok cC, by simpa using cE⟩, kp⟩
    ·dsimp only at a2
     split at a2
     ·rename_i ar har
      exact ⟨oc, od, _, osl, ar, q, har, of_decide_eq_true a2⟩
     ·cases a2
    ·dsimp only at a3
     split at a3
     ·rename_i cda
      split at a3
      ·rename_i ccl cdd vs ccs hl
       split at a3
       ·rename_i file tf hv
        exact ⟨_, ccl, cdd, vs, ccs, file, tf, rfl, hl, hv, a3⟩
       ·cases a3
      ·cases a3
     ·cases a3
    ·dsimp only at a1
     split at a1
     ·rename_i cl cld D' csl hl
      rw [of_decide_eq_true a1] at hl
      exact ⟨cl, cld, csl, hl⟩
     ·cases a1
   | [], h7 => cases h7
   | _ :: _ :: _, h7 => simp at h7
  | _ => cases c2
section
variable {P : Program} {w : World} {K : PySem.W.Frag} {mg : Str → Option Value} {base : Heap} {x qual : Str} {params : Arguments} {body : List Stmt} {scope : Scope} {dvs : List V} {kws : List (Str × V)} {f D : Addr} {fd : FuncData}
theorem FunS.ok {CX : CXT} {N ps : List Str} {k : Nat} {sp : Sp} (F : FunS P K x qual params body scope dvs kws f fd D) (S : Zcd N ps scope) (len : ∀ vs H Q E, sp vs H Q E → vs.length = ps.length)
  (hbody : ∀ (cdv : Value) (cc : Addr) (A : Around) (outer : List Env) (s : Shared) (H : Hp) (vs : List V) (Q : VK) (E : XK), SupD K P f cc D cdv → Room k (A.deeper (PySem.W.ksEnv qual scope s.heap.objs.size f cdv cc)) → sp vs H Q E →
   ∃ t, PSsa (cxS CX P w K mg base N qual scope f cdv cc A outer s H E) body body t ∧ t { nx := fun _ H' => Q .non H', rt := Q } (L2.start N vs) H) : FnOk P w K mg base CX (k + 1) f fd ps sp := by
 obtain ⟨oc, od, dV, kV, doc, pm, an, cdv, ct, osl, cc, rfl, lk, hcd, _, _, d⟩ := F.ex
 obtain ⟨cl, cld, csl, hcc⟩ := d.cell
 exact Z6f lk hcd hcc rfl S len fun A outer s H vs Q E hr hsp => hbody cdv cc A outer s H vs Q E d hr hsp
theorem FunS.bindsN {ps : List Str} (F : FunS P K x qual params body scope [] kws f fd D)
  (h : ∀ (kV doc pm : Value) (an : Option Addr) (cdv ct : Value) (cc : Addr) (us : List Value), us.length = ps.length → bindArgs (PySem.W.ksFn x qual params body scope .none kV doc pm an cdv ct cc) ⟨us, []⟩ = pure (ps.zip us)) : Binds K fd ps [] := by
 obtain ⟨oc, od, dV, kV, doc, pm, an, cdv, ct, osl, cc, rfl, lk, hcd, hD, hK, d⟩ := F.ex
 rcases hD with ⟨_, rfl⟩ | ⟨e, _⟩
 ·exact .all (h kV doc pm an cdv ct cc)
 ·exact absurd rfl e
end
structure Z28 (fa : List Fa) (fn fs : List DefD) (ts : List Tab) (ex : PySem.W.Frag → Bool) (w : World) (K : PySem.W.Frag) : Prop where
 c : Z9i fa fn ts ex w K
 s : (fs.map fun d => fnS K d.at_) = fs.map valS
theorem Z28.at_ {fa : List Fa} {fn fs : List DefD} {ts : List Tab} {ex : PySem.W.Frag → Bool} {w : World} {K : PySem.W.Frag} (c : Z28 fa fn fs ts ex w K) (i : Nat) {d : DefD} (h : fs[i]? = some d) : fnS K d.at_ = valS d := by
 have e : (fs.map fun d => fnS K d.at_)[i]? = (fs.map valS)[i]? := by rw [c.s]
 rw [Ql, Ql, h] at e
 exact Qx e
open C8 (tCut pss_cut)
variable {K : PySem.W.Frag} {mg : Str → Option Value} {P : Program} {w : World}
local macro_rules | `(tactic| walk_at "zs") => `(tactic| repeat (first
 | with_reducible refine Z7f ?_
 | with_reducible refine Z7u ?_
 | with_reducible refine s_if ?_
 | with_reducible refine Z7b (by with_unfolding_all exact rfl) ?_
 | with_reducible refine s_c ?_
 | with_reducible refine s_op ?_
 | with_reducible refine Z4b ?_
 | with_reducible refine Z7j ?_
 | with_reducible refine s_cb ?_
 | with_reducible refine s_call ?_
 | with_reducible refine Z7g ?_
 | with_reducible refine Z3s ?_
 | with_reducible refine s_bl ?_
 | with_reducible refine Z7i ?_
 | with_reducible refine Z31 ?_
 | with_reducible refine Z7e ?_
 | with_reducible refine s_sl ?_
 | with_reducible refine Z3x ?_
 | with_reducible refine Zxb ?_
 | with_reducible refine Z7o ?_
 | with_reducible refine Z38 ?_
 | with_reducible refine Z7m ?_
 | with_reducible refine Z7c ?_
 | with_reducible refine s_bm ?_
 | with_reducible refine Z30 ?_
 | with_reducible refine Z7a ?_
 | with_reducible refine Z7d ?_
 | with_reducible refine Z69 ?_
 | with_reducible refine Zt3 ?_
 | with_reducible refine Z35 ?_
 | with_reducible refine Z36 ?_
 | with_reducible refine Zt4 ?_
 | with_reducible refine Z1f ?_
 | with_reducible refine Z33 ?_
 | with_reducible refine s_in ?_
 | with_reducible refine Z1e ?_
 | with_reducible refine Z1h ?_
 | with_reducible refine Z3u ?_
 | with_reducible refine Z7s ?_
 | with_reducible refine Z4a ?_
 | with_reducible refine Z4c ?_
 | with_reducible refine Z7h ?_
 | with_reducible refine Z3z ?_
 | with_reducible refine Z3r ?_
 | with_reducible refine Z3v ?_
 | with_reducible refine iteT ?_
 | with_reducible refine iteF ?_
 | with_reducible refine s_or ?_
 | with_reducible refine Z7v ?_
 | with_reducible refine Z4d ?_
 | with_reducible refine Z3t ?_
 | with_reducible refine Z7l ?_
 | with_reducible refine Z7n ?_
 | with_reducible refine Z7q ?_
 | with_reducible refine Z7r ?_
 | with_reducible refine Z37 ?_
 | with_reducible refine s_eq (by with_unfolding_all exact rfl) ?_
 | with_reducible refine s_ne (by with_unfolding_all exact rfl) ?_
 | with_reducible refine Z7p ?_
 | with_reducible refine s_un ?_
 | with_reducible refine Z7k ?_
 | with_reducible refine s_bool ?_
 | with_reducible refine Z32 ?_
 | with_reducible refine Z7t ?_
 | with_reducible refine Z39 ?_
 | with_reducible refine Z3y ?_
 | with_reducible refine Z3w ?_
 | with_reducible refine Z1g ?_))
theorem Z6w : ∀ {u z : List Nat}, u.Pairwise (· < ·) → z.Pairwise (· < ·) → (∀ c, c ∈ u ↔ c ∈ z) → u = z := by
 intro u z hu hz m
 have nu : u.Nodup := Zhn hu
 have nz : z.Nodup := Zhn hz
 have p : u.Perm z := (List.perm_ext_iff_of_nodup nu nz).mpr m
 exact Lo (fun a b _ _ h1 h2 => absurd h1 (by omega)) hu hz p
theorem Zpz {ls z : List Nat} : isW ls z = true ↔ ∀ c ∈ z, c ∈ 45 :: ls := by
 unfold isW
 simp only [Q6, decide_eq_true_eq]
theorem Zrv {z : List Nat} {i : Int} (h : -(z.length : Int) ≤ i) (h2 : i < z.length) : ∃ c, atI z i = some c := by
 unfold atI ixN
 by_cases h0 : 0 ≤ i
 ·rw [if_pos h0, if_pos h2]
  exact ⟨_, Qf (by omega)⟩
 ·rw [if_neg h0, if_pos (by omega)]
  exact ⟨_, Qf (by omega)⟩
theorem Z4e (n d : Nat) : HT.sIx n d (some (-1)) = ((-1 : Int) + (n : Int)).toNat := rfl
theorem Zyk (ls vw : List Nat) : (cons ls vw).length ≤ ls.length := L7 _ _
theorem hu1 {A : Around} {k : Nat} (hr : Room k A) : A.units + 1 < cLine := by
 have := hr.units
 omega
end Cl
namespace Cl
open PySem PySem.Spec PyProof.Rows L2 He ClX
open StX (CallO callO_with)
def tFs (ts : List TE) : TE := fun σ H Q => tJs ts Str.empty σ H fun out H1 => Q (.str out) H1
theorem Z74 {X : Cx} {v1 v2 : Expr} {rest : List Expr} {ts : List TE} {pos : Pos} (h : PJ X (v1 :: v2 :: rest) ts) : PE X (.JoinedStr (v1 :: v2 :: rest) pos) (tFs ts) := pe_joined h
def Zv8 (K : PySem.W.Frag) (C g : Addr) : Bool := eqO (PySem.W.findIn K (.ref C) "__call__") (some (some (.ref g))) && (PySem.W.isFn K (.ref g) && PySem.W.fnIn K g)
theorem Zv7 {K : PySem.W.Frag} {C g : Addr} (h : Zv8 K C g = true) : CallO K C g := by
 obtain ⟨h1, h⟩ := ba h
 obtain ⟨h2, h3⟩ := ba h
 exact ⟨eqO_ok h1, h2, h3⟩
def Z1v (K : PySem.W.Frag) (C : Addr) (m : Str) (f : Addr) : Bool := eqO (PySem.W.findIn K (.ref C) m) (some (some (.ref f))) && (PySem.W.isFn K (.ref f) && PySem.W.keepIn K (.ref f))
theorem Zxp {K : PySem.W.Frag} {C f : Addr} {m : Str} (h : Z1v K C m f = true) : Meth K C m f := by
 obtain ⟨h1, h⟩ := ba h
 obtain ⟨h2, h3⟩ := ba h
 exact ⟨eqO_ok h1, h2, h3⟩
def Zs8 (K : PySem.W.Frag) (C D : Addr) (m : Str) (g : Addr) : Bool := decide (PySem.W.mroIn K C (.ref D) = some true) && eqO (PySem.W.ks_superIn K C D m) (some (some (.ref g)))
theorem Zs7 {K : PySem.W.Frag} {C D g : Addr} {m : Str} (h : Zs8 K C D m g = true) : Sup K C D m g := by
 obtain ⟨h1, h2⟩ := ba h
 exact ⟨of_decide_eq_true h1, eqO_ok h2⟩
end Cl
namespace Cl
open PySem PySem.Spec PyProof.Rows L2 He ClX
section
variable {P : Program} {K : PySem.W.Frag} {x qual : Str} {params : Arguments} {body : List Stmt} {scope : Scope} {kws : List (Str × V)} {f D : Addr} {fd : FuncData} {ps : List Str}
theorem FunS.kbinds0 (F : FunS P K x qual params body scope [] kws f fd D) (n : Nat) (ks : List Str)
  (h : ∀ (kV doc pm : Value) (an : Option Addr) (cdv ct : Value) (cc : Addr) (us ws : List Value), us.length = n → ws.length = ks.length →
   bindArgs (PySem.W.ksFn x qual params body scope .none kV doc pm an cdv ct cc) ⟨us, ks.zip ws⟩ = pure (ps.zip (us ++ ws))) :
  KBn K fd ps n ks (fun us ws => us ++ ws) (fun vs zs => vs ++ zs) := by
 obtain ⟨oc, od, dV, kV, doc, pm, an, cdv, ct, osl, cc, rfl, lk, hcd, hD, hK, _⟩ := F.ex
 rcases hD with ⟨_, rfl⟩ | ⟨e, _⟩
 ·exact ⟨fun s us ws X l1 l2 => .of_eq (h kV doc pm an cdv ct cc us ws l1 l2), fun r1 r2 => r1.append r2⟩
 ·exact absurd rfl e
end
structure FnRK (P : Program) (w : World) (K : PySem.W.Frag) (mg : Str → Option Value) (base : Heap) (CX : CXT) (k : Nat) (f : Addr) (n : Nat) (ks : List Str) (sp : Sp) : Prop where
 ex : ∃ fd ps, FnOk P w K mg base CX k f fd ps sp ∧ KBn K fd ps n ks (fun us ws => us ++ ws) (fun vs zs => vs ++ zs)
def Z0s (K : PySem.W.Frag) (D : Addr) (m : Str) (g : Addr) (n mm : Nat) (sp : Sp) (E : XK) (t tk : TA) : TE := fun σ H Q => ∃ a C dx fs, σ[0]? = some (some (.ref a)) ∧ H a = some (.ins C dx fs) ∧ Sup K C D m g ∧ t σ H fun vs H1 => tk σ H1 fun zs H2 => vs.length = n ∧ zs.length = mm ∧ sp ((.ref a :: vs) ++ zs) H2 Q E
section
variable {CX CX' : CXT} {P : Program} {w : World} {K : PySem.W.Frag} {mg : Str → Option Value} {base : Heap} {N : List Str} {qual : Str} {scope : Scope} {f cc D g : Addr} {cd : Value} {A : Around} {outer : List Env} {s0 : Shared} {H0 : Hp} {E0' : XK} {b : List Stmt}
variable {k n : Nat} {ks : List Str} {sp : Sp} {E : XK} {m : Str} {p0 p1 apos pos : Pos} {pl : Sem Bool}
theorem Z1j {X : Cx} {pins : List (Addr × Obj)} {σ : L2.St} {H : Hp} {s : Shared} {C q : Addr} {Q : VK} {us ws : List Value} {vs zs : List V} (F : FnRK X.prog X.w X.K X.mg X.base CX' k g (n + 1) ks sp) (hr : Room k X.A) (hx : Passes CX' X E) (I : Inv X ((q, PySem.W.methodObj (.ref g) (.ref C)) :: pins) σ H s)
  (r : Vals vs us) (rz : Vals zs ws) (l1 : vs.length = n) (l2 : zs.length = ks.length) (h : sp ((.ref C :: vs) ++ zs) H Q E) : wpAny (model X.prog X.w) X.A (call (.ref q) us (ks.zip ws)) (EP X pins σ Q) X.xe s := by
 obtain ⟨fd, ps, F, hb⟩ := F.ex
 have r1 : Vals (V.ref C :: vs) (Value.ref C :: us) := .cons rfl r
 have r2 := hb.rel r1 rz
 have n1 : (Value.ref C :: us).length = n + 1 := by
  rw [Qe, ← r.length, l1]
 have z : wpAny (model X.prog X.w) X.A (call (.ref q) us (ks.zip ws)) (EP X ((q, PySem.W.methodObj (.ref g) (.ref C)) :: pins) σ Q) X.xe s := by
  refine wpAny_call (PySem.W.method_call (pin_at I) (codeAny_mono (F.run X.A X.stack s H ⟨.ref C :: us, ks.zip ws⟩ _ _ Q E hr I.env0 (hb.to s (.ref C :: us) ws I.kIn n1 (rz.length.symm.trans l2)) r2 h) fun r s' hq => ?_))
  cases r with
  | error e => exact hx _ σ H s e s' I hq
  | ok fl =>
   cases fl with
   | ret u => exact I.after hq
   | next => exact False.elim hq
   | brk => exact False.elim hq
   | cont => exact False.elim hq
 exact thn z fun _ _ y => unpinE y
theorem Zgx {M : Model} {A : Around} {c : Code} {E : Value → Shared → Prop} {s : Shared} {env : Env} {o : Expr} {name : Str} {args : List Expr} {kws : List Keyword} {apos pos : Pos} {pl : Sem Bool} {Q : Value → Shared → Prop}
  (h : PySem.wpAt M A c (attributeBase o name env (eval o env)) (fun ov s1 => wpAny M A (getMethod ov name pl) (fun fx s2 => wpAny M A (callWith pos fx.1 fx.2 (backTo pos (starEach args env)) (backToKw pos (keywordEach kws env))) Q E s2) E s1) E s)
  (he : eval (.Call (.Attribute o name apos) args kws pos) env = (do
   let ov ← attributeBase o name env (eval o env)
   standAt apos.atName
   let (f, first) ← holding [ov] (getMethod ov name pl)
   callWith pos f first (backTo pos (starEach args env)) (backToKw pos (keywordEach kws env)))) : PySem.wpAt M A c (eval (.Call (.Attribute o name apos) args kws pos) env) Q E s := by
 rw [he]
 refine PySem.wpAt_bind (PySem.wpAt_mono h (fun ov s1 h1 => PySem.wpAt_of_wpAny ?_) fun _ _ x => x)
 exact wpAny_bind (wpAny_standAt (wpAny_bind (wpAny_holding (wpAny_mono h1 (fun fx s2 h2 => h2) fun _ _ x => x))))
theorem Zxf {e : Expr} {es : List Expr} {kws : List Keyword} {t tk : TA} (d : SupD K P f cc D cd) (hm : mg "super" = none) (hg : PySem.W.typeIn K (.ref g) = some (.type "function")) (hgi : PySem.W.fnIn K g = true) (F : FnRK P w K mg base CX' k g (n + 1) ks sp) (hr : Room k (A.deeper (PySem.W.ksEnv qual scope s0.heap.objs.size f cd cc)))
  (hx : Passes CX' (cxS CX P w K mg base N qual scope f cd cc A outer s0 H0 E0') E) (ha : PA (cxS CX P w K mg base N qual scope f cd cc A outer s0 H0 E0') (e :: es) t) (hkw : PK (cxS CX P w K mg base N qual scope f cd cc A outer s0 H0 E0') kws tk)
  (hall : (backToKw pos (keywordEach kws (PySem.W.ksEnv qual scope s0.heap.objs.size f cd cc))).all (·.1.isSome) = true := by rfl) (hks' : (backToKw pos (keywordEach kws (PySem.W.ksEnv qual scope s0.heap.objs.size f cd cc))).filterMap (·.1) = ks := by rfl)
  (hks : scope.names.lookup ("super" : Str) = some .globalImplicit := by rfl) (hkc : scope.names.lookup ("__class__" : Str) = some .free := by rfl) (hself : scope.names.lookup ("self" : Str) = some .local := by rfl) (h0 : N[0]? = some ("self" : Str) := by rfl) (hat : (m == ("__class__" : Str)) = false := by decide)
  (hst : starEach (e :: es) (PySem.W.ksEnv qual scope s0.heap.objs.size f cd cc) = (false, eval e (PySem.W.ksEnv qual scope s0.heap.objs.size f cd cc)) :: starEach es (PySem.W.ksEnv qual scope s0.heap.objs.size f cd cc) := by rfl)
  (hpl : ((backTo pos (starEach (e :: es) (PySem.W.ksEnv qual scope s0.heap.objs.size f cd cc))).any (·.1) || (backToKw pos (keywordEach kws (PySem.W.ksEnv qual scope s0.heap.objs.size f cd cc))).any (·.1.isNone)) = false := by rfl)
  (he : eval (.Call (.Attribute (.Call (.Name "super" p0) [] [] p1) m apos) (e :: es) kws pos) (PySem.W.ksEnv qual scope s0.heap.objs.size f cd cc) = (do
   let ov ← attributeBase (.Call (.Name "super" p0) [] [] p1) m (PySem.W.ksEnv qual scope s0.heap.objs.size f cd cc) (eval (.Call (.Name "super" p0) [] [] p1) (PySem.W.ksEnv qual scope s0.heap.objs.size f cd cc))
   standAt apos.atName
   let (fv, first) ← holding [ov] (getMethod ov m pl)
   callWith pos fv first (backTo pos (starEach (e :: es) (PySem.W.ksEnv qual scope s0.heap.objs.size f cd cc))) (backToKw pos (keywordEach kws (PySem.W.ksEnv qual scope s0.heap.objs.size f cd cc)))) := by rfl) :
  PEa (cxS CX P w K mg base N qual scope f cd cc A outer s0 H0 E0') b (.Call (.Attribute (.Call (.Name "super" p0) [] [] p1) m apos) (e :: es) kws pos) (Z0s K D m g n ks.length sp E t tk) := by
 refine ⟨fun pins s σ H Q I h => ?_⟩
 obtain ⟨a, C, dx, fs, h1, h2, h3, q⟩ := h
 refine Zgx (pl := pl) (Zo6 d hm hks hkc hself h0 hat I h1 h2 h3 hg fun q' s1 hb I1 => ?_) he
 refine PySem.W.callWith_of (P := PySem.W.MethP K q' g (.ref a)) (first := []) hpl (PySem.W.keeps_M hgi) (PyProof.Rows.evalArgs_kw2 hall (thn (ha.run pos _ s1 σ H _ I1 q) fun us s2 ⟨vs, H2, I2, r, q2⟩ => ?_) hst)
 refine thn (hkw.run pos _ s2 σ H2 _ I2 q2) fun ws s3 ⟨zs, H3, I3, rz, l1, l2, q3⟩ => ⟨⟨pin_at I3, I3.kIn⟩, ?_⟩
 show wpAny _ _ (call (.ref q') us (((backToKw pos (keywordEach kws (PySem.W.ksEnv qual scope s0.heap.objs.size f cd cc))).filterMap (·.1)).zip ws)) _ _ s3
 rw [hks']
 exact Z1j F hr hx I3 r rz l1 l2 q3
end
def tNever : TS := fun _ _ _ => False
theorem ps_never {X : Cx} {st : Stmt} : PS X st tNever := ⟨fun pins s σ H D I h => h.elim⟩
def Zh5 (n : Nat) (sp : Sp) : Sp := fun vs H Q E => ∃ ws rest, vs = ws ++ rest ∧ ws.length = n ∧ rest.length ≤ sizeLine ∧ ∀ p, H p = none → sp (ws ++ [V.ref p]) (upd H p (.tup rest)) Q E
theorem FunD.star {P : Program} {w : World} {K : PySem.W.Frag} {mg : Str → Option Value} {base : Heap} {x qual : Str} {params : Arguments} {body : List Stmt} {scope : Scope} {f : Addr} {fd : FuncData} {CX : CXT} {N ps : List Str} {pv : Str} {k : Nat} {sp : Sp}
  (F : FunD K x qual params body scope [] [] f fd) (S : FnScope N (ps ++ [pv]) scope) (hCX : StX.CXUp CX)
  (hb : ∀ (kV doc pm : Value) (an : Option Addr) (cdv ct : Value) (us rest : List Value), us.length = ps.length → bindArgs (PySem.W.fnOf x qual params body scope .none kV doc pm an cdv ct) ⟨us ++ rest, []⟩ = (newTuple rest >>= fun t => pure (ps.zip us ++ [(pv, t)])))
  (hbody : ∀ (cdv : Value) (A : Around) (outer : List Env) (s : Shared) (H : Hp) (vs : List V) (Q : VK) (E : XK), Room k (A.deeper (envOfC qual scope s.heap.objs.size f cdv)) → sp vs H Q E →
   ∃ t, PSs (cxOf CX P w K mg base N qual scope f cdv A outer s H E) body t ∧ t { nx := fun _ H' => Q .non H', rt := Q } (L2.start N vs) H) : FnR P w K mg base CX (k + 1) f (Zh5 ps.length sp) := by
 obtain ⟨oc, od, dV, kV, doc, pm, an, cdv, ct, osl, rfl, lk, hcd, hD, hK⟩ := F.ex
 rcases hD with ⟨_, rfl⟩ | ⟨e, _⟩
 ·exact StX.fn_star lk hcd S hCX (hb kV doc pm an cdv ct) fun A outer s H vs Q E hr hsp => hbody cdv A outer s H vs Q E hr hsp
 ·exact absurd rfl e
def Ze6 (C : Addr) (sp : Sp) (E : XK) (tf : TE) (t : TA) : TE := fun σ H Q => tf σ H fun y H1 => y = .ref C ∧ t σ H1 fun vs H2 => ∀ x dx, H2 x = none → H2 dx = none → dx ≠ x →
 sp (V.ref x :: vs) (upd (upd H2 dx (.own x)) x (.ins C dx [])) (fun v H3 => v = .non ∧ Q (.ref x) H3) E
section
variable {X : Cx} {CX : CXT} {k : Nat} {f C : Addr} {sp : Sp} {E : XK} {e fe : Expr} {es : List Expr} {tf : TE} {t : TA} {pos : Pos}
theorem Zq5 (hf : PE X fe tf) (M : Mk X.K C f) (F : FnR X.prog X.w X.K X.mg X.base CX k f sp) (hr : Room (k + 1) X.A) (hx : Passes CX X E) (ha : PA X (e :: es) t)
  (ht : eval (.Call fe (e :: es) [] pos) X.env = (do callWith pos (← eval fe X.env) [] (backTo pos (starEach (e :: es) X.env)) (backToKw pos (keywordEach [] X.env))) := by rfl)
  (he : starEach (e :: es) X.env = (false, eval e X.env) :: starEach es X.env := by rfl) (hpl : (backTo pos (starEach es X.env)).any (·.1) = false := by rfl) : PE X (.Call fe (e :: es) [] pos) (Ze6 C sp E tf t) := by
 refine ⟨fun pins s σ H Q I h => ?_⟩
 refine PyProof.Rows.Call_ (thn (hf.run pins s σ H _ I h) fun u s1 ⟨y, H1, I1, ry, ey, q⟩ => ?_) ht
 subst ey
 obtain rfl : u = Value.ref C := ry
 refine PySem.W.callWith_K (h₀ := X.base) I1.ok.mod.kin M.kp (thn (ha.run pos pins s1 σ H1 _ I1 q) fun us s2 ⟨vs, H2, I2, r, q2⟩ => ⟨I2.kIn, ?_⟩) he hpl
 exact StX.run_makeR M F hr hx I2 r q2
theorem Zuf (hf : PE X fe tf) (M : Mk X.K C f) (F : FnR X.prog X.w X.K X.mg X.base CX k f sp) (hr : Room (k + 1) X.A) (hx : Passes CX X E) (ha : PA X (e :: es) t)
  (ht : eval (.Call fe (e :: es) [] pos) X.env = (do callWith pos (← eval fe X.env) [] (backTo pos (starEach (e :: es) X.env)) (backToKw pos (keywordEach [] X.env))) := by rfl)
  (he : starEach (e :: es) X.env = (false, eval e X.env) :: starEach es X.env := by rfl) (hst : (backTo pos (starEach es X.env)).any (·.1) = true := by rfl) : PE X (.Call fe (e :: es) [] pos) (Ze6 C sp E tf t) := by
 refine ⟨fun pins s σ H Q I h => ?_⟩
 refine PyProof.Rows.Call_ (thn (hf.run pins s σ H _ I h) fun u s1 ⟨y, H1, I1, ry, ey, q⟩ => ?_) ht
 subst ey
 obtain rfl : u = Value.ref C := ry
 refine PySem.W.callWith_S2 (h₀ := X.base) I1.ok.mod.kin M.kp (thn (ha.run pos pins s1 σ H1 _ I1 q) fun us s2 ⟨vs, H2, I2, r, q2⟩ => ⟨I2.kIn, ?_⟩) he hst
 exact StX.run_makeR M F hr hx I2 r q2
end
section
variable {X : Cx} {CX : CXT} {k : Nat} {f C : Addr} {fd : FuncData} {ps : List Str} {sp : Sp} {E : XK}
theorem Zt5 {pins : List (Addr × Obj)} {σ : L2.St} {H : Hp} {s : Shared} {Q : VK} {us : List Value} {vs : List V} (F : FnOk X.prog X.w X.K X.mg X.base CX k f fd ps sp) (hr : Room (k + 1) X.A) (hb : Binds X.K fd ps []) (hx : Passes CX X E)
  (I : Inv X pins σ H s) (r : Vals vs us) (h : sp vs H Q E) : wpAny (model X.prog X.w) X.A.in1 (call (.ref f) us) (EP X pins σ Q) X.xe s := by
 have hl : us.length = ps.length := by rw [← r.length]; exact F.len _ _ _ _ h
 have hbd := hb s us I.kIn (by rw [Qv]; exact hl)
 rw [Qv] at hbd
 refine wpAny_call (codeAny_mono (F.run X.A.in1 X.stack s H ⟨us, []⟩ us vs Q E hr.in1 I.env0.in1 hbd r h) fun r s' hq => ?_)
 cases r with
 | error e => exact hx pins σ H s e s' I hq
 | ok fl =>
  cases fl with
  | ret u => exact I.after hq
  | next => exact False.elim hq
  | brk => exact False.elim hq
  | cont => exact False.elim hq
theorem Zvm {M : Model} {A : Around} {E : Value → Shared → Prop} {s : Shared} {K : PySem.W.Frag} {x C : Addr} {ox : Obj} {od : Option Obj} {name : Str} {id : String} {args : List Value} {Q : Option Value → Shared → Prop} (KI : K.In s.heap) (I : PySem.W.InstAt s.heap x ox C od)
  (hs : PySem.W.findIn K (.ref C) name = some (some (.builtin id))) (hbd : bindSpecial (.builtin id) (.ref x) = pure (.builtin id, [.ref x]))
  (h : wpAny M A (call (.builtin id) (.ref x :: args)) (fun v => Q (some v)) E s) : wpAny M A (callSpecialIfBound? (.ref x) name args) Q E s := by
 simp only [callSpecialIfBound?, bindSpecialIfBound?]
 refine wpAny_holding (wpAny_bind (wpAny_bind (wpAny_bind (I.type.here ((PySem.W.looks_findIn KI hs).here ?_)))))
 simp only [hbd]
 refine wpAny_bind (wpAny_askSetting (wpAny_ite ?_))
 have fin : wpAny M A (call (.builtin id) ([.ref x] ++ args) >>= fun v => pure (some v)) Q E s := wpAny_bind (wpAny_mono h (fun v s' h' => wpAny_pure h') fun _ _ h' => h')
 split
 ·exact wpAny_bind (wpAny_pure (wpAny_pure fin))
 ·exact wpAny_tryCatch (wpAny_bind (wpAny_pure (wpAny_pure fin)))
structure NeC (K : PySem.W.Frag) (C : Addr) : Prop where
 ne : PySem.W.findIn K (.ref C) "__ne__" = some (some (.builtin "object.__ne__"))
 ob : PySem.W.subIn K (.ref C) (.type "object") = some true
def neB (K : PySem.W.Frag) (C : Addr) : Bool := eqO (PySem.W.findIn K (.ref C) "__ne__") (some (some (.builtin "object.__ne__"))) && decide (PySem.W.subIn K (.ref C) (.type "object") = some true)
theorem Z4v {K : PySem.W.Frag} {C : Addr} (h : neB K C = true) : NeC K C := by
 obtain ⟨h1, h2⟩ := ba h
 exact ⟨eqO_ok h1, of_decide_eq_true h2⟩
def rNeI (C : Addr) (sp : Sp) (E : XK) : R2 := fun x y H Q => ∃ a b dx dy fs gs, x = .ref a ∧ y = .ref b ∧ H a = some (.ins C dx fs) ∧ H b = some (.ins C dy gs) ∧ sp [.ref a, .ref b] H (fun v H' => ∃ k, v = .bl k ∧ Q (.bl (!k)) H') E
theorem Zzf (F : FnOk X.prog X.w X.K X.mg X.base CX k f fd ps sp) (hr : Room (k + 1) X.A) (hm : Meth X.K C "__eq__" f) (hn : NeC X.K C) (hb : Binds X.K fd ps []) (hx : Passes CX X E) : OpR X (compareOp .NotEq) (rNeI C sp E) := by
 intro pins s σ H x y v u Q I rx ry h
 obtain ⟨a, b, dx, dy, fs, gs, rfl, rfl, ha, hb', hsp⟩ := h
 cases rx
 cases ry
 obtain ⟨mA, J, _⟩ := ins_get I.hok ha
 obtain ⟨mB, J', _⟩ := ins_get I.hok hb'
 obtain ⟨od, J, _⟩ := J.look
 obtain ⟨od', J', _⟩ := J'.look
 have hu : X.A.units + 1 < cLine := by have := hr.un; omega
 have call1 := Zt5 (us := [.ref a, .ref b]) (vs := [.ref a, .ref b]) F hr hb hx I (.cons rfl (.cons rfl .nil)) hsp
 have inst : PySem.W.Looks (model X.prog X.w) s.heap (isInstance (.ref a) (.type "object")) true := J.type.andThen (PySem.W.looks_subIn I.kIn hn.ob)
 have entry : wpAny (model X.prog X.w) X.A.in1 (Builtin.«object.__ne__» ⟨[.ref a, .ref b], []⟩) (fun fin s' => ∃ k, fin = .done (.ret (.bool (!k))) ∧ EP X pins σ Q (.bool (!k)) s') X.xe s := by
  unfold Builtin.«object.__ne__»
  repeat (first
   | with_reducible refine wpAny_cRoomFor hu ?_
   | (refine wpAny_bind (m := callSpecialIfBound? (.ref a) (Str.ofString "__eq__") [.ref b])
       (PySem.W.ifBound_K I.kIn J hm.at_ hm.fn (wpAny_mono call1 (fun r s' hr => by
         obtain ⟨z, H', I', rz, k, rfl, q⟩ := hr
         cases rz
         have hq : ∃ k', (Fin.done (.ret (.bool (!k))) : PySem.Fin) = .done (.ret (.bool (!k'))) ∧ EP X pins σ Q (.bool (!k')) s' := ⟨k, rfl, .bl (!k), H', I', rfl, q⟩
         repeat (first | exact hq | exact wpAny_pure hq | exact wpAny_truthy_bool hq | (refine wpAny_bind (m := truthy (.bool _)) (wpAny_truthy_bool ?_)) | wp_step)) fun _ _ e => e)))
   | wp_step)
 have tc : wpAny (model X.prog X.w) X.A (tryCompare (.ref a) "__ne__" (.ref b)) (fun r s' => ∃ v, r = some v ∧ EP X pins σ Q v s') X.xe s := by
  unfold tryCompare
  refine wpAny_bind (Zvm I.kIn J hn.ne (PySem.F.slot_enumerate_ne.bind _) (wpAny_call (codeAny_call_builtin PySem.F.slot_enumerate_ne.plain PySem.F.cmpEntry_ne (@PySem.W.check_slot (model X.prog X.w) _ _ _ "object.__ne__" "object" "__ne__" (.ref a) [.ref b] [] _ PySem.F.cmpKind_ne PySem.F.cmpSplit_ne inst (PySem.F.cmpArgs_ne _ _) ?_))))
  refine wpAny_mono entry (fun v s' hv => ?_) fun _ _ e => e
  obtain ⟨k, rfl, hq⟩ := hv
  first | exact ⟨_, rfl, wpAny_pure ⟨_, rfl, hq⟩⟩ | exact wpAny_pure ⟨_, rfl, hq⟩ | exact ⟨_, rfl, hq⟩
 show wpAny (model X.prog X.w) X.A (richCompare .NotEq (.ref a) (.ref b)) (EP X pins σ Q) X.xe s
 unfold richCompare
 simp only [oneThing_ref]
 refine wpAny_holding (wpAny_bind (wpAny_cRoomFor (Nat.lt_of_succ_lt hu) ?_))
 refine wpAny_bind (J.type.here (wpAny_bind (J'.type.here ?_)))
 rw [show (Value.ref C != Value.ref C) = false from by simp]
 simp only [Bool.false_eq_true, if_false]
 refine wpAny_bind (wpAny_pure ?_)
 simp only [Bool.false_eq_true, if_false]
 refine wpAny_bind (wpAny_mono tc (fun r s' z => ?_) fun _ _ e => e)
 obtain ⟨v, rfl, hq⟩ := z
 exact wpAny_pure hq
theorem Z2v (F : FnOk X.prog X.w X.K X.mg X.base CX k f fd ps sp) (hr : Room (k + 1) X.A) (hm : Meth X.K C "__len__" f) (hb : Binds X.K fd ps []) (hx : Passes CX X E) :
  CallR X (.builtin "len") (fun xs H Q => ∃ a dx fs, xs = [.ref a] ∧ H a = some (.ins C dx fs) ∧ sp [.ref a] H (fun v H' => ∃ n : Int, v = .int n ∧ (0 ≤ n ∧ n < 2 ^ 63) ∧ Q (.int n) H') E) := by
 intro pins s σ H xs us Q I r h
 obtain ⟨a, dx, fs, rfl, ha, hsp⟩ := h
 obtain rfl := Vals.ref1 r
 obtain ⟨mA, J, _⟩ := ins_get I.hok ha
 obtain ⟨od, J, _⟩ := J.look
 obtain ⟨m, hF⟩ := I.fr
 refine PySem.W.len_K hF I.ok.mod.kin J hm.at_ hm.fn (wpAny_mono (Zt5 (us := [.ref a]) (vs := [.ref a]) F hr hb hx I (.cons rfl .nil) hsp) (fun v s' hv => ?_) fun _ _ e => e)
 obtain ⟨z, H', I', rz, n, rfl, hn, q⟩ := hv
 obtain ⟨t, rfl⟩ := rz
 exact ⟨hn, .int n, H', I'.tok _, ⟨_, rfl⟩, q⟩
end
def cmAd (K : PySem.W.Frag) (p : Str × Option Str) : Addr := He5.wf K (ga K p.1) "classmethod" (p.2.getD "")
def fdAt (K : PySem.W.Frag) (a : Addr) : FuncData := match K.lookup a with
 | some ⟨_, _, .func fd, _⟩ => fd
 | _ => default
def valM (d : DefD) : He5.FnW := some (d.name, d.qual, d.params, .stmts d.body, d.scope, mainGlobals, [], builtinsNs)
def toA (d : DefD) : He5.DefA := ⟨fun K => cmAd K d.at_, d.name, d.qual, d.params, d.body, d.scope, d.dfl, d.kwd⟩
def cmB (K : PySem.W.Frag) (d : DefD) : Bool := (toA d).ok K && (He5.wrapB K (ga K d.at_.1) "classmethod" "classmethod.__get__" (d.at_.2.getD "") && PySem.W.fnIn K (cmAd K d.at_))
theorem Z87 {K : PySem.W.Frag} {x q : Str} {a : Arguments} {b : List Stmt} {sc : Scope} {dvs : List V} {kws : List (Str × V)} {f : Addr} (h : ∃ fd, FunD K x q a b sc dvs kws f fd) : FunD K x q a b sc dvs kws f (fdAt K f) := by
 obtain ⟨fd, F⟩ := h
 have e : fdAt K f = fd := by
  obtain ⟨oc, od, dV, kV, doc, pm, an, cdv, ct, osl, rfl, lk, _⟩ := F.ex
  unfold fdAt
  rw [lk]
 rw [e]
 exact F
theorem Z2j {K : PySem.W.Frag} {d : DefD} (e : He5.fnA K (cmAd K d.at_) = valM d) (c : cmB K d = true) : FunD K d.name d.qual d.params d.body d.scope (d.dvs K) (d.kws K) (cmAd K d.at_) (fdAt K (cmAd K d.at_)) :=
 Z87 (He5.DefA.funD (d := toA d) e (ba c).1)
theorem Z9d {K : PySem.W.Frag} {C m : Str} {d : DefD} (h : d.at_ = (C, some m)) (c : cmB K d = true) : ∃ p, CMet K (ga K C) (.type "type") m p (cmAd K d.at_) := by
 obtain ⟨_, c⟩ := ba c
 obtain ⟨h1, h2⟩ := ba c
 rw [h] at h1 h2 ⊢
 exact ⟨_, He5.cmet_of (m := m) h1 h2⟩
structure Zqe (fa : List Fa) (fn fs fm : List DefD) (ts : List Tab) (ex : PySem.W.Frag → Bool) (w : World) (K : PySem.W.Frag) : Prop where
 b : Z28 fa fn fs ts ex w K
 m : (fm.map fun d => He5.fnA K (cmAd K d.at_)) = fm.map valM
theorem Zqe.at_ {fa : List Fa} {fn fs fm : List DefD} {ts : List Tab} {ex : PySem.W.Frag → Bool} {w : World} {K : PySem.W.Frag} (c : Zqe fa fn fs fm ts ex w K) (i : Nat) {d : DefD} (h : fm[i]? = some d) : He5.fnA K (cmAd K d.at_) = valM d := by
 have e : (fm.map fun d => He5.fnA K (cmAd K d.at_))[i]? = (fm.map valM)[i]? := by rw [c.m]
 rw [Ql, Ql, h] at e
 exact Qx e
def Z7z (o : Obj) : List Addr := refV o.cls ++ (match o.dict with | some d => [d] | none => []) ++
 (match o.data with
  | Data.seq its _ => List.flatMap refV its.toList
  | Data.dict es _ => List.flatMap (fun e => refV e.val) es.toList
  | Data.func fd => refV fd.code ++ refV fd.defaults ++ (refV fd.kwdefaults ++ List.map (fun x => x.snd) fd.closure)
  | Data.cls cd => cd.ns :: List.flatMap refV cd.mro
  | Data.fields vs => List.flatMap refV vs.toList
  | Data.cell (some v) => refV v
  | _ => [])
def metN (m a : Nat) : Bool := Nat.beq (Nat.land (Nat.shiftRight m a) 1) 1
noncomputable def insN {α : Type} (as : List Addr) (m : Nat) (l : List Addr) (k : Nat → List Addr → α) : α :=
 List.rec (motive := fun _ => Nat → List Addr → α) (fun m l => k m l) (fun a _ ih m l => HandSHeadRun.frNat a fun a => cond (metN m a) (ih m l) (HandSHeadRun.frNat (Nat.lor m (Nat.shiftLeft 1 a)) fun m => ih m (a :: l))) as m l
noncomputable def levN {α : Type} (g : Addr → Option Obj) (fs : List Addr) (m : Nat) (l : List Addr) (k : Nat → List Addr → α) : α :=
 List.rec (motive := fun _ => Nat → List Addr → α) (fun m l => k m l) (fun a _ ih m l => insN (match g a with | some o => Z7z o | none => []) m l ih) fs m l
noncomputable def Z83 (g : Addr → Option Obj) (n : Nat) (fs : List Addr) (m : Nat) (acc : List Addr) : List Addr :=
 Nat.rec (motive := fun _ => List Addr → Nat → List Addr → List Addr) (fun _ _ acc => acc) (fun _ ih fs m acc => levN g fs m [] fun m' nf => ih nf m' (acc ++ nf)) n fs m acc
noncomputable def asN (g : Addr → Option Obj) (n : Nat) : List Addr := Z83 g n [mainGlobals] (Nat.shiftLeft 1 mainGlobals) [mainGlobals] ++ [PySem.cStatics]
noncomputable def obsN (n : Nat) (fa : List Fa) (fn fs fm : List DefD) (ts : List Tab) (ex : PySem.W.Frag → Bool) (g : Addr → Option Obj) : ((AlT × Bool) × List FnS) × List He5.FnW :=
 (fun K : PySem.W.Frag => (((obsT fa fn ts K, ex K), fs.map fun d => fnS K d.at_), fm.map fun d => He5.fnA K (cmAd K d.at_))) (frG g (asN g n))
noncomputable def Z2f (n : Nat) (fa : List Fa) (fn fs fm : List DefD) (ts : List Tab) (ex : PySem.W.Frag → Bool) : PySem.W.Hook where
 α := ((AlT × Bool) × List FnS) × List He5.FnW
 obs := fun s => obsN n fa fn fs fm ts ex s.heap.get?
 val := fun w => (((valT fn ts w, true), fs.map valS), fm.map valM)
 says := fun w h => ∃ K : PySem.W.Frag, K.In h ∧ Zqe fa fn fs fm ts ex w K
 of := fun _ _ e => ⟨_, frG_in, ⟨⟨⟨congrArg (fun z : ((AlT × Bool) × List FnS) × List He5.FnW => z.1.1.1) e, congrArg (fun z : ((AlT × Bool) × List FnS) × List He5.FnW => z.1.1.2) e⟩, congrArg (fun z : ((AlT × Bool) × List FnS) × List He5.FnW => z.1.2) e⟩, congrArg (fun z : ((AlT × Bool) × List FnS) × List He5.FnW => z.2) e⟩⟩
 keeps := fun _ _ _ ⟨K, hK, c⟩ k => ⟨K, PySem.W.Frag.In.keeps hK k, c⟩
theorem Z1s {n : Nat} {fa : List Fa} {fn fs fm : List DefD} {ts : List Tab} {ex : PySem.W.Frag → Bool} {g : Addr → Option Obj} {s : Shared} (h : ∀ a, g a = s.heap.get? a) : obsN n fa fn fs fm ts ex g = (Z2f n fa fn fs fm ts ex).obs s := by
 have e : g = s.heap.get? := funext h
 subst e
 rfl
noncomputable def KN (n : Nat) (s : PySem.W.SharedT) : PySem.W.Frag := frG (HandSHeadRun.getT s) (asN (HandSHeadRun.getT s) n)
def Run1 (r : PySem.W.OpenRow) (q : Program) (n : Nat) (fa : List Fa) (fn : List DefD) (ts : List Tab) (M : Nat) (loose : List Str) (w : World) : Prop := ∀ os : OsState,
 Option.map (fun s => ((HandSHeadRun.looksF r.prog (PySem.W.boot_heap w.params) s.abs, HandSHeadRun.seenQ q loose (importedModules r.prog.main.body) (fun s => PySem.W.xlAt q [] s && PySem.W.recOk r.records s) s.abs), obsT fa fn ts (KN n s))) (HandSHeadRun.endF (HandSHeadRun.stepQ (HandSHeadRun.denQ HandSHeadRun.tabQ) r.prog w) M r.prog w os) = some ((true, PySem.W.openGood q loose), valT fn ts w)
def Run2 (r : PySem.W.OpenRow) (n : Nat) (fs fm : List DefD) (ex : PySem.W.Frag → Bool) (M : Nat) (w : World) : Prop := ∀ os : OsState,
 Option.map (fun s => (ex (KN n s), (fs.map fun d => fnS (KN n s) d.at_), fm.map fun d => He5.fnA (KN n s) (cmAd (KN n s) d.at_))) (HandSHeadRun.endF (HandSHeadRun.stepQ (HandSHeadRun.denQ HandSHeadRun.tabQ) r.prog w) M r.prog w os) = some (true, fs.map valS, fm.map valM)
theorem Zt6 {r : PySem.W.OpenRow} {q : Program} {n : Nat} {fa : List Fa} {fn fs fm : List DefD} {ts : List Tab} {ex : PySem.W.Frag → Bool} {M : Nat} {loose : List Str} {w : World} (h1 : Run1 r q n fa fn ts M loose w) (h2 : Run2 r n fs fm ex M w) :
  HandSHeadRun.RunEq r q (Z2f n fa fn fs fm ts ex) (fun s => obsN n fa fn fs fm ts ex (HandSHeadRun.getT s)) M loose w := by
 intro os
 have a := h1 os
 have b := h2 os
 cases e : HandSHeadRun.endF (HandSHeadRun.stepQ (HandSHeadRun.denQ HandSHeadRun.tabQ) r.prog w) M r.prog w os with
 | none => rw [e] at a; cases a
 | some s =>
  rw [e] at a b
  have a := Qx a
  have b := Qx b
  have a1 := congrArg (fun z => z.1.1) a
  have a2 := congrArg (fun z => z.1.2) a
  have a3 := congrArg (fun z => z.2) a
  have b1 := congrArg (fun z => z.1) b
  have b2 := congrArg (fun z => z.2.1) b
  have b3 := congrArg (fun z => z.2.2) b
  show some _ = some _
  congr 1
  dsimp only at a1 a2 a3 b1 b2 b3
  show (_, _, (((obsT fa fn ts (KN n s), ex (KN n s)), fs.map fun d => fnS (KN n s) d.at_), fm.map fun d => He5.fnA (KN n s) (cmAd (KN n s) d.at_))) = (true, _, (((valT fn ts w, true), fs.map valS), fm.map valM))
  rw [a1, a2, a3, b1, b2, b3]
theorem hu65 {A : Around} {k : Nat} (hr : Room k A) : A.units + 65 < cLine := by have := hr.un; omega
section
variable {X : Cx}
def Zqm : V → List V → Hp → VK → Prop := fun x xs H Q => ∃ a b : List Nat, x = sv a ∧ xs = [sv b] ∧ b ≠ [] ∧ b.all (· < 256) = true ∧ a.length + 2 ≤ sizeLine ∧ ∀ p, H p = none → Q (.ref p) (upd H p (.lst ((TL.spl b 0 [] a).map sv)))
theorem Zxn : MtR X "str.split" Zqm := by
 intro pins s σ H x xs v us Q I rx rv h
 obtain ⟨a, b, rfl, rfl, hb, hk, hl, q⟩ := h
 refine mt_split pins s σ H _ _ v us Q I rx rv ⟨S a, S b, rfl, rfl, ?_, hl, ?_⟩
 ·cases b with
  | nil => exact absurd rfl hb
  | cons c r => rfl
 ·intro p hp
  have e : Txt.split (S a) (S b) = (TL.spl b 0 [] a).map S := SX.split_S hb hk
  rw [e, Qk]
  exact q p hp
def Zxd (K : PySem.W.Frag) (b : Bool) : R2 := fun x y H Q => ∃ d ds, Dp K H x d ∧ (Dp K H y (.list ds) ∨ Dp K H y (.tuple ds)) ∧ SeqAt.shaped d = true ∧ SeqAt.shaped (.list ds) = true ∧ Q (.bl (b != ds.any fun z => PyData.eqv z d)) H
theorem Zsd (hu : X.A.units + 65 < cLine) : OpR X (compareOp .NotIn) (Zxd X.K true) := by
 intro pins s σ H x y v u Q I rx ry h
 obtain ⟨d, ds, hd, he, sd, se, q⟩ := h
 rw [G4] at q
 obtain ⟨as, r1⟩ := Dp.reads I d x v hd rx
 rcases he with he | he
 ·obtain ⟨bs, r2⟩ := Dp.reads I (.list ds) y u he ry
  exact SeqAt.notIn_list_reads r2 r1 (SeqAt.canLay_of_shaped se) (SeqAt.canLay_of_shaped sd) (room_in_shaped sd hu) ⟨.bl _, H, I, rfl, q⟩
 ·obtain ⟨bs, r2⟩ := Dp.reads I (.tuple ds) y u he ry
  exact SeqAt.notIn_tuple_reads r2 r1 (SeqAt.canLay_of_shaped se) (SeqAt.canLay_of_shaped sd) (room_in_shaped sd hu) ⟨.bl _, H, I, rfl, q⟩
end
def lkT (kvs : List (List Nat × Int)) (z : List Nat) : Option Int := (kvs.find? fun q => decide (q.1 = z)).map (·.2)
def TabD (K : PySem.W.Frag) (w : World) (a : Addr) (kvs : List (List Nat × Int)) : Prop := ∃ es n, KDict K w a es n ∧ ∀ z : List Nat, (∀ i, lkT kvs z = some i → ∃ u, PySem.W.nsIn K a (S z) = some (some u) ∧ RelV (.int i) u) ∧ (lkT kvs z = none → PySem.W.nsIn K a (S z) = some none)
theorem Zu3 {e : DictEntry} {k : Str} {i : Int} (h : He.keyOf e = some (k, i)) : ∃ t, e.key = .str k t := by
 unfold He.keyOf at h
 split at h
 ·rename_i x t q
  have h4 := Qx h
  obtain ⟨h5, h6⟩ := Prod.mk.inj h4
  exact ⟨t, by rw [q, h5]⟩
 ·cases h
theorem Zmn {P : Params} : ∀ {l : List DictEntry} {ks : List Str}, l.map He.keyOf = keysIn P ks → ∀ e ∈ l, ∃ k ∈ ks, ∃ t, e.key = .str k t
 | [], _, _, e, he => nomatch he
 | d :: r, [], h, _, _ => by cases h
 | d :: r, k :: ks, h, e, he => by
  have h1 : He.keyOf d :: r.map He.keyOf = some (k, PyData.keyHash P k) :: keysIn P ks := h
  injection h1 with h2 h3
  rcases Qg.mp he with rfl | he
  ·obtain ⟨t, q⟩ := Zu3 h2
   exact ⟨k, Qp, t, q⟩
  ·obtain ⟨k', hk, q⟩ := Zmn h3 e he
   exact ⟨k', Qh _ hk, q⟩
theorem Z3k {K : PySem.W.Frag} {w : World} {a : Addr} {kvs : List (List Nat × Int)} (h : dicW K a = some (keysIn w.params (kvs.map fun q => S q.1))) (hv : valsB K a (kvs.map fun q => (S q.1, Dv.int q.2)) = true) : TabD K w a kvs := by
 obtain ⟨es, n, D⟩ := dicW_ok h
 refine ⟨es, n, D, fun z => ⟨fun i hi => ?_, fun hn => ?_⟩⟩
 ·obtain ⟨q, hq, e⟩ : ∃ q ∈ kvs, q = (z, i) := by
   unfold lkT at hi
   cases hf : kvs.find? fun q => decide (q.1 = z) with
   | none => rw [hf] at hi; cases hi
   | some q =>
    rw [hf] at hi
    have h1 := List.find?_some hf
    have h2 := List.mem_of_find?_eq_some hf
    refine ⟨q, h2, ?_⟩
    have e1 : q.1 = z := of_decide_eq_true h1
    have e2 : q.2 = i := Qx hi
    rw [← e1, ← e2]
  subst e
  obtain ⟨u, h1, h2⟩ := valsB_ok hv (q := (S z, Dv.int i)) (Qs.mpr ⟨(z, i), hq, rfl⟩)
  exact ⟨u, h1, h2⟩
 ·have hkeys : es.toList.map He.keyOf = keysIn w.params (kvs.map fun q => S q.1) := by
   unfold dicW at h
   rw [D.at_] at h
   simp only at h
   split at h
   ·exact Qx h
   ·cases h
  have hno : ∀ e ∈ es.toList, e.key.isStr (S z) = false := fun e he => by
   obtain ⟨k, hk, t, q⟩ := Zmn hkeys e he
   obtain ⟨q', hq', rfl⟩ := Qs.mp hk
   rw [q]
   have hne : ¬ q'.1 = z := fun ez => by
    unfold lkT at hn
    have : (kvs.find? fun q => decide (q.1 = z)) = none := by
     cases hf : kvs.find? fun q => decide (q.1 = z) with
     | none => rfl
     | some x => rw [hf] at hn; cases hn
    have := List.find?_eq_none.mp this q' hq'
    exact this (decide_eq_true ez)
   show (S q'.1 == S z) = false
   rw [show (S q'.1 == S z) = decide (q'.1 = z) from SX.S_beq_eq]
   exact decide_eq_false hne
  have href : es.toList.any (·.refKey) = false := by
   rw [List.any_eq_false]
   intro e he
   obtain ⟨k, hk, t, q⟩ := Zmn hkeys e he
   unfold DictEntry.refKey
   rw [q]
   simp
  unfold PySem.W.nsIn
  rw [D.at_]
  simp only
  have hf : es.toList.find? (·.key.isStr (S z)) = none := List.find?_eq_none.mpr fun e he => by rw [hno e he]; simp
  rw [hf]
  simp only [href]
  rfl
section
variable {X : Cx} {a : Addr} {kvs : List (List Nat × Int)}
def Zl5 (kvs : List (List Nat × Int)) (a : Addr) : R2 := fun x y H Q => ∃ z, x = sv z ∧ y = .ref a ∧ Q (.bl (!(lkT kvs z).isSome)) H
theorem Zuh (h : TabD X.K X.w a kvs) : OpR X (compareOp .NotIn) (Zl5 kvs a) := by
 obtain ⟨es, n, D, hv⟩ := h
 intro pins s σ H x y v u Q I rx ry ⟨z, ex, ey, q⟩
 cases hl : lkT kvs z with
 | none =>
  rw [hl] at q
  exact op_notIn_kd D pins s σ H _ _ v u Q I rx ry ⟨S z, none, ex, ey, (hv z).2 hl, q⟩
 | some i =>
  rw [hl] at q
  obtain ⟨u', h1, h2⟩ := (hv z).1 i hl
  exact op_notIn_kd D pins s σ H _ _ v u Q I rx ry ⟨S z, some u', ex, ey, h1, q⟩
def rIxT (kvs : List (List Nat × Int)) (a : Addr) : R2 := fun x y H Q => ∃ z i, x = .ref a ∧ y = sv z ∧ lkT kvs z = some i ∧ Q (.int i) H
theorem ix_T (h : TabD X.K X.w a kvs) : IxR X (rIxT kvs a) := by
 obtain ⟨es, n, D, hv⟩ := h
 intro value slice pins s σ H x y v u Q I rx ry ⟨z, i, ex, ey, hl, q⟩ hs
 obtain ⟨u', h1, h2⟩ := (hv z).1 i hl
 exact ix_kdict value slice pins s σ H x y v u Q I rx ry ⟨a, S z, .int i, ex, ey, ⟨es, n, u', D.at_, D.lit, h1, h2⟩, q⟩ hs
end
def Zjs (w : World) (b : Bool) : World := { w with params := { w.params with followText := fun s => if s = "special-get-raises" then b else w.params.followText s } }
theorem Zq1 {w : World} {b : Bool} (h : w.params.followText "special-get-raises" = b) : Zjs w b = w := by
 obtain ⟨dr, P⟩ := w
 obtain ⟨a1, a2, a3, a4, a5, f, a6⟩ := P
 have e : (fun s => if s = "special-get-raises" then b else f s) = f := by
  funext s
  by_cases hs : s = "special-get-raises"
  ·rw [if_pos hs, hs]; exact h.symm
  ·rw [if_neg hs]
 unfold Zjs
 simp only [e]
abbrev NUMS : List (List Nat × Int) := [([49], 1), ([50], 2), ([51], 3)]
abbrev At : Type := Str × Option Str
def dD (s : Stmt) (a : At) (n q : Str) (dfl : List Dv := []) (kwd : List (Str × Dv) := []) : DefD := ⟨a, n, q, defArgs s, defBody s, defScope s, dfl, kwd⟩
structure Es where
 sb : List (Str × DefD) := []
 xc : List Str := []
 bi : List Str := []
 kc : List (Str × Str × Bool) := []
 kt : List (String × String × Bool) := []
 co : List (Str × Str × Dv) := []
 ic : List Str := []
 cr : List Str := []
 cv : List (Str × Str × V) := []
 sg : List At := []
 su : List (Str × Str × Str × At) := []
 mb : List (Str × Str × At) := []
 ca : List (Str × At) := []
 ne : List Str := []
 sf : List Str := []
 e0 : List Str := []
 tb : List (Str × List (List Nat × Int)) := []
 em : List (Str × Str × Bool) := []
noncomputable def Es.ok (E : Es) (P : Program) (fm : List DefD) (K : PySem.W.Frag) : Bool :=
 E.sb.all (fun p => supB P K p.1 p.2) && (E.xc.all (fun c => Z3c K (ga K c)) && (E.bi.all (fun c => Z0a K (ga K c)) && (E.kc.all (fun p => decide (PySem.W.kitOne K (.ref (ga K p.1)) (.ref (ga K p.2.1)) = some p.2.2)) &&
 (E.kt.all (fun p => decide (PySem.W.kitOne K (.type p.1) (.type p.2.1) = some p.2.2)) && (E.co.all (fun p => conB K p.1 p.2.1 p.2.2 && !PySem.W.copiedNames.contains p.2.1) && (E.ic.all (fun c => Z59 K (ga K c)) && (E.cr.all (fun c => Zz6 K (ga K c)) &&
 (E.cv.all (fun p => Z2x K (ga K p.1) p.2.1 p.2.2) && (E.sg.all (fun p => decide (PySem.W.typeIn K (.ref (fAd K p)) = some (.type "function")) && PySem.W.fnIn K (fAd K p)) && (E.su.all (fun p => Zs8 K (ga K p.1) (ga K p.2.1) p.2.2.1 (fAd K p.2.2.2)) &&
 (E.mb.all (fun p => Z1v K (ga K p.1) p.2.1 (fAd K p.2.2)) && (E.ca.all (fun p => Zv8 K (ga K p.1) (fAd K p.2)) && (E.ne.all (fun c => neB K (ga K c)) && (E.sf.all (fun c => PySem.W.selfFirst K (ga K c)) && (E.e0.all (fun c => PySem.W.excIn K (ga K c) veBase "ValueError.__new__") &&
 (E.tb.all (fun p => valsB K (ga K p.1) (p.2.map fun q => (S q.1, Dv.int q.2))) && (E.em.all (fun p => decide (PySem.W.exmOne K (.ref (ga K p.1)) (.ref (ga K p.2.1)) = some p.2.2)) && fm.all (cmB K))))))))))))))))))
theorem Zas {α : Type} {p : α → Bool} {l : List α} {i : Nat} {x : α} (h : l.all p = true) (e : l[i]? = some x) : p x = true := Q6.mp h x (Qr e)
structure Fc (P : Program) (fa : List Fa) (fn fs fm : List DefD) (ts : List Tab) (E : Es) (w : World) (K : PySem.W.Frag) (mg : Str → Option Value) : Prop where
 X : ∃ h, K.In h ∧ h.Ns mainGlobals mg
 c : Zqe fa fn fs fm ts (E.ok P fm) w K
section
variable {P : Program} {fa : List Fa} {fn fs fm : List DefD} {ts : List Tab} {E : Es} {w : World} {K : PySem.W.Frag} {mg : Str → Option Value} {x y m : Str} {d : DefD} {p : At} {b : Bool}
theorem Fc.f (T : Fc P fa fn fs fm ts E w K mg) (i : Nat) {f : Fa} (h : fa[i]? = some f) : f.ok K = true := T.c.b.c.t.d.fact i h
theorem Fc.g (T : Fc P fa fn fs fm ts E w K mg) (i : Nat) (h : fa[i]? = some (.glo x)) : mg x = some (.ref (ga K x)) := let ⟨_, X, G⟩ := T.X; glo_ok X G (T.f i h)
theorem Fc.n (T : Fc P fa fn fs fm ts E w K mg) (i : Nat) (h : fa[i]? = some (.free x)) : mg x = none := let ⟨_, X, G⟩ := T.X; free_ok X G (T.f i h)
theorem Fc.s (T : Fc P fa fn fs fm ts E w K mg) (i : Nat) (h : fa[i]? = some (.str x y)) : ∃ t, mg x = some (.str y t) := let ⟨_, X, G⟩ := T.X; str_ok X G (T.f i h)
theorem Fc.int (T : Fc P fa fn fs fm ts E w K mg) (i : Nat) {j : Int} (h : fa[i]? = some (.int x j)) : ∃ t, mg x = some (.int j t) := let ⟨_, X, G⟩ := T.X; int_ok X G (T.f i h)
theorem Fc.i (T : Fc P fa fn fs fm ts E w K mg) (i : Nat) (h : fa[i]? = some (.meth x m)) : PySem.W.findIn K (.ref (ga K x)) m = some (some (.ref (fAd K (x, some m)))) := eqO_ok (ba (T.f i h)).1
theorem Fc.ti (T : Fc P fa fn fs fm ts E w K mg) (i : Nat) (h : fa[i]? = some (.meth x m)) : PySem.W.typeIn K (.ref (fAd K (x, some m))) = some (.type "function") := beq_iff_eq.mp (ba (ba (T.f i h)).2).1
theorem Fc.me (T : Fc P fa fn fs fm ts E w K mg) (i : Nat) (h : fa[i]? = some (.meth x m)) : Meth K (ga K x) m (fAd K (x, some m)) := meth_ok (T.f i h)
theorem Fc.no (T : Fc P fa fn fs fm ts E w K mg) (i : Nat) (h : fa[i]? = some (.noat x m)) : PySem.W.findIn K (.ref (ga K x)) m = some none := eqO_ok (T.f i h)
theorem Fc.cl (T : Fc P fa fn fs fm ts E w K mg) (i : Nat) (h : fa[i]? = some (.cls x)) : Cls K (ga K x) := cls_ok (T.f i h)
theorem Fc.mk' (T : Fc P fa fn fs fm ts E w K mg) (i : Nat) (h : fa[i]? = some (.mkr x)) : Mk K (ga K x) (fAd K (x, some "__init__")) := mkr_ok (T.f i h)
theorem Fc.em (T : Fc P fa fn fs fm ts E w K mg) (i : Nat) (h : fa[i]? = some (.exm x y b)) : PySem.W.exmOne K (.ref (ga K x)) (.ref (ga K y)) = some b := exm_ok (T.f i h)
theorem Fc.F (T : Fc P fa fn fs fm ts E w K mg) (i : Nat) (h : fn[i]? = some d) : FunD K d.name d.qual d.params d.body d.scope (d.dvs K) (d.kws K) (fAd K d.at_) (fdOf K d.at_) := Z86 (T.c.b.c.t.d.def_ i h)
theorem Fc.all (T : Fc P fa fn fs fm ts E w K mg) : E.ok P fm K = true := T.c.b.c.more
theorem Fc.sb (T : Fc P fa fn fs fm ts E w K mg) (i : Nat) (h : E.sb[i]? = some (x, d)) (e : fs[i]? = some d) : FunS P K d.name d.qual d.params d.body d.scope (d.dvs K) (d.kws K) (fAd K d.at_) (fdOf K d.at_) (ga K x) := Z2i (T.c.b.at_ i e) (by have q := Zas (ba T.all).1 h; exact q)
theorem Fc.xc (T : Fc P fa fn fs fm ts E w K mg) (i : Nat) (h : E.xc[i]? = some x) : XCls K (ga K x) := Zwu (by have q := Zas (ba (ba T.all).2).1 h; exact q)
theorem Fc.bi (T : Fc P fa fn fs fm ts E w K mg) (i : Nat) (h : E.bi[i]? = some x) : Z61 K (ga K x) := Zwf (by have q := Zas (ba (ba (ba T.all).2).2).1 h; exact q)
theorem Fc.kc (T : Fc P fa fn fs fm ts E w K mg) (i : Nat) (h : E.kc[i]? = some (x, y, b)) : PySem.W.kitOne K (.ref (ga K x)) (.ref (ga K y)) = some b := of_decide_eq_true (by have q := Zas (ba (ba (ba (ba T.all).2).2).2).1 h; exact q)
theorem Fc.kt (T : Fc P fa fn fs fm ts E w K mg) (i : Nat) {s t : String} (h : E.kt[i]? = some (s, t, b)) : PySem.W.kitOne K (.type s) (.type t) = some b := of_decide_eq_true (by have q := Zas (ba (ba (ba (ba (ba T.all).2).2).2).2).1 h; exact q)
theorem Fc.co (T : Fc P fa fn fs fm ts E w K mg) (i : Nat) {v : Dv} (h : E.co[i]? = some (x, y, v)) : ∃ u, Con K (ga K x) y (v.v K) u := by
 have q0 := Zas (ba (ba (ba (ba (ba (ba T.all).2).2).2).2).2).1 h
 have q := ba q0
 exact conB_ok q.1 (by simpa using q.2)
theorem Fc.ic (T : Fc P fa fn fs fm ts E w K mg) (i : Nat) (h : E.ic[i]? = some x) : ICls K (ga K x) := Zx5 (by have q := Zas (ba (ba (ba (ba (ba (ba (ba T.all).2).2).2).2).2).2).1 h; exact q)
theorem Fc.cr (T : Fc P fa fn fs fm ts E w K mg) (i : Nat) (h : E.cr[i]? = some x) : CRead K (ga K x) (.type "type") := Zv2 (by have q := Zas (ba (ba (ba (ba (ba (ba (ba (ba T.all).2).2).2).2).2).2).2).1 h; exact q)
theorem Fc.cv (T : Fc P fa fn fs fm ts E w K mg) (i : Nat) {v : V} (h : E.cv[i]? = some (x, y, v)) : ∃ u, CVal K (ga K x) (.type "type") y v u := Zyj (by have q := Zas (ba (ba (ba (ba (ba (ba (ba (ba (ba T.all).2).2).2).2).2).2).2).2).1 h; exact q)
theorem Fc.sg (T : Fc P fa fn fs fm ts E w K mg) (i : Nat) (h : E.sg[i]? = some p) : PySem.W.typeIn K (.ref (fAd K p)) = some (.type "function") := of_decide_eq_true (ba (by have q := Zas (ba (ba (ba (ba (ba (ba (ba (ba (ba (ba T.all).2).2).2).2).2).2).2).2).2).1 h; exact q)).1
theorem Fc.si (T : Fc P fa fn fs fm ts E w K mg) (i : Nat) (h : E.sg[i]? = some p) : PySem.W.fnIn K (fAd K p) = true := (ba (by have q := Zas (ba (ba (ba (ba (ba (ba (ba (ba (ba (ba T.all).2).2).2).2).2).2).2).2).2).1 h; exact q)).2
theorem Fc.t11 (T : Fc P fa fn fs fm ts E w K mg) : E.su.all (fun p => Zs8 K (ga K p.1) (ga K p.2.1) p.2.2.1 (fAd K p.2.2.2)) = true ∧ E.mb.all (fun p => Z1v K (ga K p.1) p.2.1 (fAd K p.2.2)) = true ∧ E.ca.all (fun p => Zv8 K (ga K p.1) (fAd K p.2)) = true ∧ E.ne.all (fun c => neB K (ga K c)) = true ∧
  E.sf.all (fun c => PySem.W.selfFirst K (ga K c)) = true ∧ E.e0.all (fun c => PySem.W.excIn K (ga K c) veBase "ValueError.__new__") = true ∧ E.tb.all (fun p => valsB K (ga K p.1) (p.2.map fun q => (S q.1, Dv.int q.2))) = true ∧ E.em.all (fun p => decide (PySem.W.exmOne K (.ref (ga K p.1)) (.ref (ga K p.2.1)) = some p.2.2)) = true ∧ fm.all (cmB K) = true := by
 have h := (ba (ba (ba (ba (ba (ba (ba (ba (ba (ba T.all).2).2).2).2).2).2).2).2).2).2
 exact ⟨(ba h).1, (ba (ba h).2).1, (ba (ba (ba h).2).2).1, (ba (ba (ba (ba h).2).2).2).1, (ba (ba (ba (ba (ba h).2).2).2).2).1, (ba (ba (ba (ba (ba (ba h).2).2).2).2).2).1, (ba (ba (ba (ba (ba (ba (ba h).2).2).2).2).2).2).1, (ba (ba (ba (ba (ba (ba (ba (ba h).2).2).2).2).2).2).2).1, (ba (ba (ba (ba (ba (ba (ba (ba h).2).2).2).2).2).2).2).2⟩
theorem Fc.su (T : Fc P fa fn fs fm ts E w K mg) (i : Nat) (h : E.su[i]? = some (x, y, m, p)) : Sup K (ga K x) (ga K y) m (fAd K p) := Zs7 (by have q := Zas T.t11.1 h; exact q)
theorem Fc.mb (T : Fc P fa fn fs fm ts E w K mg) (i : Nat) (h : E.mb[i]? = some (x, m, p)) : Meth K (ga K x) m (fAd K p) := Zxp (by have q := Zas T.t11.2.1 h; exact q)
theorem Fc.ca (T : Fc P fa fn fs fm ts E w K mg) (i : Nat) (h : E.ca[i]? = some (x, p)) : StX.CallO K (ga K x) (fAd K p) := Zv7 (by have q := Zas T.t11.2.2.1 h; exact q)
theorem Fc.ne (T : Fc P fa fn fs fm ts E w K mg) (i : Nat) (h : E.ne[i]? = some x) : NeC K (ga K x) := Z4v (by have q := Zas T.t11.2.2.2.1 h; exact q)
theorem Fc.sf (T : Fc P fa fn fs fm ts E w K mg) (i : Nat) (h : E.sf[i]? = some x) : PySem.W.selfFirst K (ga K x) = true := by have q := Zas T.t11.2.2.2.2.1 h; exact q
theorem Fc.e0 (T : Fc P fa fn fs fm ts E w K mg) (i : Nat) (h : E.e0[i]? = some x) : PySem.W.excIn K (ga K x) veBase "ValueError.__new__" = true := by have q := Zas T.t11.2.2.2.2.2.1 h; exact q
theorem Fc.tb (T : Fc P fa fn fs fm ts E w K mg) (i : Nat) {kvs : List (List Nat × Int)} (h : E.tb[i]? = some (y, kvs)) (e : ts[i]? = some ((fun K => ga K y), kvs.map fun q => S q.1)) : TabD K w (ga K y) kvs := by
 have q : (ts.map fun t => dicW K (t.1 K))[i]? = (ts.map fun t => some (keysIn w.params t.2))[i]? := by
  have r := congrArg (fun z : AlT => z.2) T.c.b.c.t
  have r : (ts.map fun t => dicW K (t.1 K)) = ts.map fun t => some (keysIn w.params t.2) := r
  rw [r]
 rw [Ql, Ql, e] at q
 have r := Zas T.t11.2.2.2.2.2.2.1 h
 exact Z3k (Qx q) r
theorem Fc.ex (T : Fc P fa fn fs fm ts E w K mg) (i : Nat) (h : E.em[i]? = some (x, y, b)) : PySem.W.exmOne K (.ref (ga K x)) (.ref (ga K y)) = some b := of_decide_eq_true (by have q := Zas T.t11.2.2.2.2.2.2.2.1 h; exact q)
theorem Fc.M (T : Fc P fa fn fs fm ts E w K mg) (i : Nat) (h : fm[i]? = some d) : FunD K d.name d.qual d.params d.body d.scope (d.dvs K) (d.kws K) (cmAd K d.at_) (fdAt K (cmAd K d.at_)) := Z2j (T.c.at_ i h) (by have q := Zas T.t11.2.2.2.2.2.2.2.2 h; exact q)
theorem Fc.cm (T : Fc P fa fn fs fm ts E w K mg) (i : Nat) (h : fm[i]? = some d) (e : d.at_ = (x, some m)) : ∃ p, CMet K (ga K x) (.type "type") m p (cmAd K d.at_) := Z9d e (by have q := Zas T.t11.2.2.2.2.2.2.2.2 h; exact q)
end
def RunA (r : PySem.W.OpenRow) (q : Program) (M : Nat) (loose : List Str) (w : World) : Prop := ∀ os : OsState,
 Option.map (fun s => (HandSHeadRun.looksF r.prog (PySem.W.boot_heap w.params) s.abs, HandSHeadRun.seenQ q loose (importedModules r.prog.main.body) (fun s => PySem.W.xlAt q [] s && PySem.W.recOk r.records s) s.abs)) (HandSHeadRun.endF (HandSHeadRun.stepQ (HandSHeadRun.denQ HandSHeadRun.tabQ) r.prog w) M r.prog w os) = some (true, PySem.W.openGood q loose)
def RunB (r : PySem.W.OpenRow) (n : Nat) (fa : List Fa) (fn : List DefD) (ts : List Tab) (M : Nat) (w : World) : Prop := ∀ os : OsState,
 Option.map (fun s => obsT fa fn ts (KN n s)) (HandSHeadRun.endF (HandSHeadRun.stepQ (HandSHeadRun.denQ HandSHeadRun.tabQ) r.prog w) M r.prog w os) = some (valT fn ts w)
theorem Zt7 {r : PySem.W.OpenRow} {q : Program} {n : Nat} {fa : List Fa} {fn : List DefD} {ts : List Tab} {M : Nat} {loose : List Str} {w : World} (h1 : RunA r q M loose w) (h2 : RunB r n fa fn ts M w) : Run1 r q n fa fn ts M loose w := by
 intro os
 have a := h1 os
 have b := h2 os
 cases e : HandSHeadRun.endF (HandSHeadRun.stepQ (HandSHeadRun.denQ HandSHeadRun.tabQ) r.prog w) M r.prog w os with
 | none => rw [e] at a; cases a
 | some s =>
  rw [e] at a b
  have a := Qx a
  have b := Qx b
  show some (_, _) = some (_, _)
  rw [← a, ← b]
end Cl
namespace Cl.Kl
open PySem PySem.Spec PyProof.Rows L2 He ClX
noncomputable abbrev PP : Program := (PySem.Challenge.rw_cliplore_k94_lots_at_the_very_bound).prog
def top (i : Nat) : Stmt := PySem.Challenge.pw_cliplore_k94_lots_at_the_very_bound.main.body.getD i (.Pass ⟨0, 0, 0, 0⟩)
abbrev Zem : Stmt := inClass (top 3) 0
abbrev Zfv : List Str := ["self", "part"]
abbrev Zg3 : Stmt := inClass (top 5) 0
abbrev Zjk : List Str := ["self", "what"]
abbrev Zji : List Str := ["text"]
abbrev Zjl : List Str := ["self", "letters", "vowels", "foreign", "sign"]
abbrev Zfx : List Str := ["self", "text", "sign"]
abbrev Zc4 : List Str := ["self", "name", "inner"]
abbrev Zfw : List Str := ["self", "name"]
abbrev Zh1 : Stmt := inClass (top 6) 0
abbrev Zkc : List Str := ["self", "stage", "what"]
abbrev Zh0 : Stmt := inClass (top 10) 0
abbrev Zkb : List Str := ["self", "number"]
abbrev Zm2 : List Str := ["self", "other"]
abbrev Zo3 : List Str := ["self", "alphabet"]
abbrev Zne : Stmt := inClass (top 19) 0
abbrev Ze2 : List Str := ["self", "alphabet", "name", "after", "each"]
abbrev Zqk : List Str := ["self", "parts"]
abbrev Zg2 : Stmt := inClass (top 20) 0
abbrev Zcv : List Str := ["self", "alphabet", "name", "after", "each"]
abbrev Zg1 : Stmt := inClass (top 20) 1
abbrev Zcu : List Str := ["self"]
abbrev Zk7 : Stmt := inClass (top 21) 0
abbrev Zd7 : List Str := ["self", "alphabet", "sign", "name"]
abbrev Zo2 : List Str := ["self"]
abbrev Znd : Stmt := inClass (top 22) 0
abbrev Ze1 : List Str := ["self", "alphabet", "name"]
abbrev Zqi : List Str := ["self"]
abbrev Zo8 : Stmt := inClass (top 23) 0
abbrev Zgm : List Str := ["self", "alphabet", "sign"]
abbrev Zsp : List Str := ["self"]
abbrev Zqf : List Str := ["alphabet", "name", "parts", "number", "each", "after"]
abbrev Zo1 : List Str := ["alphabet", "text", "parts"]
abbrev Znc : Stmt := inClass (top 29) 1
abbrev Ze0 : List Str := ["self", "alphabet", "stages", "stage"]
abbrev Zqh : List Str := ["cls", "alphabet", "text", "stages", "piece", "e"]
abbrev Zqg : List Str := ["self", "stage"]
abbrev Zm0 : List Str := ["alphabet", "texts", "stages", "text", "e"]
abbrev Zso : List Str := ["self", "rules", "texts", "rule", "at"]
abbrev Zgp : Stmt := inClass (top 33) 2
abbrev Zjj : List Str := ["cls", "alphabet", "depth", "stages", "known", "at", "many", "power", "size", "level", "rules", "row", "stage"]
abbrev Zwq : List Str := ["self"]
abbrev Zqj : List Str := ["self", "rule"]
abbrev Z3a : List Str := ["_law_script"]
abbrev Zyq : List Str := ["_law_bag_here", "_law_size", "_law_rest", "_law_cell"]
abbrev Zwp : List Str := ["_law_letters", "_law_texts", "_law_name", "_law_sign", "_law_after", "_law_tail"]
abbrev Zyr : List Str := ["_law_alphabet", "_law_t"]
abbrev Zta : Stmt := top 39
abbrev Zm1 : List Str := ["_law_alphabet", "_law_t", "e"]
abbrev Z9l : List Str := ["_law_script", "_law_bag_here", "_law_start", "_law_letters", "_law_alphabet", "_law_texts", "_law_cut", "_law_lot", "_law_great", "_law_text"]
def ts : List Tab := [(fun K => ga K "NUMBERS", List.map (fun q => S q.1) NUMS)]
def fa : List Fa := [.glo "Add", .glo "Alphabet", .glo "BadAlphabet", .glo "BadRule", .glo "BadStage", .glo "ClipError", .glo "Drop", .glo "LastDrop", .glo "Lot", .glo "Mixed", .glo "NUMBERS", .glo "Once", .glo "Rule", .glo "TooMany", .glo "Write", .glo "_law_bag", .glo "_law_forms", .glo "_law_full", .glo "_law_over", .glo "_law_take", .glo "all_different", .glo "law", .glo "read_drop", .glo "read_stage", .glo "read_stages", .free "int", .free "isinstance", .free "len", .free "list", .free "range", .free "set", .free "sorted", .free "str", .free "super", .free "tuple", .meth "BadAlphabet" "__init__", .meth "BadStage" "__init__", .meth "BadRule" "__init__", .meth "TooMany" "__init__", .noat "BadAlphabet" "part", .noat "BadStage" "what", .noat "BadRule" "what", .noat "BadRule" "stage", .noat "TooMany" "number", .noat "Alphabet" "letters", .noat "Alphabet" "vowels", .noat "Alphabet" "consonants", .noat "Alphabet" "signs", .noat "Drop" "alphabet", .noat "Drop" "name", .noat "Drop" "chosen", .noat "Drop" "after", .noat "Drop" "each", .noat "LastDrop" "alphabet", .noat "LastDrop" "name", .noat "LastDrop" "chosen", .noat "LastDrop" "after", .noat "LastDrop" "each", .noat "Write" "alphabet", .noat "Write" "sign", .noat "Write" "name", .noat "Write" "chosen", .noat "Once" "alphabet", .noat "Once" "name", .noat "Once" "chosen", .noat "Add" "alphabet", .noat "Add" "sign", .noat "Rule" "alphabet", .noat "Rule" "stages", .noat "Lot" "alphabet", .noat "Lot" "rules", .cls "Alphabet", .cls "Drop", .cls "LastDrop", .cls "Write", .cls "Once", .cls "Add", .cls "Rule", .cls "Lot", .mkr "Drop", .mkr "LastDrop", .mkr "Add", .mkr "Once", .mkr "Write", .mkr "Rule", .mkr "Lot", .mkr "Alphabet", .meth "Alphabet" "__eq__", .meth "Lot" "__len__", .str "SMALL" (S [97, 98, 99, 100, 101, 102, 103, 104, 105, 106, 107, 108, 109, 110, 111, 112, 113, 114, 115, 116, 117, 118, 119, 120, 121, 122]), .str "SEPARATOR" (S [59, 32]), .str "EMPTY" (S [107, 101, 101, 112]), .int "LONGEST" 3, .int "DEEPEST" 3]
def Zfo : DefD := dD (inClass (top 3) 0) ("BadAlphabet", some "__init__") "__init__" "BadAlphabet.__init__"
def Zi9 : DefD := dD (inClass (top 5) 0) ("BadStage", some "__init__") "__init__" "BadStage.__init__"
def Zi6 : DefD := dD (top 13) ("all_different", none) "all_different" "all_different"
def Zja : DefD := dD (inClass (top 14) 2) ("Alphabet", some "__init__") "__init__" "Alphabet.__init__" [.str (S [])]
def Zfq : DefD := dD (inClass (top 14) 6) ("Alphabet", some "is_word") "is_word" "Alphabet.is_word"
def Zc3 : DefD := dD (inClass (top 14) 5) ("Alphabet", some "listed_members") "listed_members" "Alphabet.listed_members"
def Zfp : DefD := dD (inClass (top 14) 4) ("Alphabet", some "members") "members" "Alphabet.members"
def Zj8 : DefD := dD (inClass (top 6) 0) ("BadRule", some "__init__") "__init__" "BadRule.__init__"
def Zj7 : DefD := dD (inClass (top 10) 0) ("TooMany", some "__init__") "__init__" "TooMany.__init__"
def Zmq : DefD := dD (inClass (top 14) 3) ("Alphabet", some "__eq__") "__eq__" "Alphabet.__eq__"
def Zoo : DefD := dD (inClass (top 18) 0) ("Stage", some "__init__") "__init__" "Stage.__init__"
def Zi8 : DefD := dD (inClass (top 19) 0) ("Drop", some "__init__") "__init__" "Drop.__init__" [] [("after", .int 0), ("each", .bl false)]
def Zp7 : DefD := dD (inClass (top 19) 1) ("Drop", some "text") "text" "Drop.text"
def Zd4 : DefD := dD (inClass (top 20) 0) ("LastDrop", some "__init__") "__init__" "LastDrop.__init__" [] [("after", .int 0), ("each", .bl false)]
def Zd3 : DefD := dD (inClass (top 20) 1) ("LastDrop", some "text") "text" "LastDrop.text"
def Zgv : DefD := dD (inClass (top 21) 0) ("Write", some "__init__") "__init__" "Write.__init__"
def Zon : DefD := dD (inClass (top 21) 1) ("Write", some "text") "text" "Write.text"
def Zi7 : DefD := dD (inClass (top 22) 0) ("Once", some "__init__") "__init__" "Once.__init__"
def Zp4 : DefD := dD (inClass (top 22) 1) ("Once", some "text") "text" "Once.text"
def Zkx : DefD := dD (inClass (top 23) 0) ("Add", some "__init__") "__init__" "Add.__init__"
def Zsl : DefD := dD (inClass (top 23) 1) ("Add", some "text") "text" "Add.text"
def Zp0 : DefD := dD (top 24) ("read_drop", none) "read_drop" "read_drop"
def Zom : DefD := dD (top 25) ("read_stage", none) "read_stage" "read_stage"
def Zp3 : DefD := dD (inClass (top 29) 1) ("Rule", some "__init__") "__init__" "Rule.__init__"
def Zp2 : DefD := dD (inClass (top 29) 2) ("Rule", some "read") "read" "Rule.read"
def Zp1 : DefD := dD (inClass (top 29) 3) ("Rule", some "text") "text" "Rule.text"
def Zmp : DefD := dD (top 32) ("read_stages", none) "read_stages" "read_stages"
def Zsk : DefD := dD (inClass (top 33) 1) ("Lot", some "__init__") "__init__" "Lot.__init__"
def Zp6 : DefD := dD (inClass (top 33) 2) ("Lot", some "made") "made" "Lot.made" [] [("depth", .int 2)]
def Zvz : DefD := dD (inClass (top 33) 3) ("Lot", some "__len__") "__len__" "Lot.__len__"
def Zp5 : DefD := dD (inClass (top 33) 4) ("Lot", some "texts") "texts" "Lot.texts"
def Z2q : DefD := dD (top 35) ("_law_bag", none) "_law_bag" "_law_bag"
def Zye : DefD := dD (top 36) ("_law_take", none) "_law_take" "_law_take"
def Zvy : DefD := dD (top 37) ("_law_forms", none) "_law_forms" "_law_forms"
def Zyg : DefD := dD (top 38) ("_law_full", none) "_law_full" "_law_full"
def Zyf : DefD := dD (top 39) ("_law_over", none) "_law_over" "_law_over"
def Z9a : DefD := dD (top 40) ("law", none) "law" "law"
def fnd : List DefD := [Zfo, Zi9, Zi6, Zja, Zfq, Zc3, Zfp, Zj8, Zj7, Zmq, Zoo, Zp7, Zon, Zp4, Zsl, Zp0, Zom, Zp3, Zp1, Zmp, Zsk, Zvz, Zp5, Z2q, Zye, Zvy, Zyg, Zyf, Z9a]
def fns : List DefD := [Zi8, Zd4, Zd3, Zgv, Zi7, Zkx]
def fm : List DefD := [Zp2, Zp6]
def es : Es := { sb := [("Drop", Zi8), ("LastDrop", Zd4), ("LastDrop", Zd3), ("Write", Zgv), ("Once", Zi7), ("Add", Zkx)], xc := ["BadAlphabet", "BadStage", "Mixed", "BadRule", "TooMany"], bi := ["ClipError"], kc := [("Alphabet", "Alphabet", true)], kt := [("list", "list", true)], ic := ["Alphabet"], cr := ["Alphabet", "Lot", "Rule"], cv := [("Alphabet", "JOINT", (sv [45])), ("Alphabet", "MOST", (.int 8)), ("Rule", "MOST", (.int 4)), ("Lot", "MOST", (.int 200))], sg := [("Stage", some "__init__"), ("Drop", some "__init__"), ("Drop", some "text")], su := [("Drop", "Drop", "__init__", ("Stage", some "__init__")), ("LastDrop", "Drop", "__init__", ("Stage", some "__init__")), ("LastDrop", "LastDrop", "__init__", ("Drop", some "__init__")), ("LastDrop", "LastDrop", "text", ("Drop", some "text")), ("Write", "Write", "__init__", ("Stage", some "__init__")), ("Once", "Once", "__init__", ("Stage", some "__init__")), ("Add", "Add", "__init__", ("Stage", some "__init__"))], mb := [("Alphabet", "is_word", ("Alphabet", some "is_word")), ("Alphabet", "listed_members", ("Alphabet", some "listed_members")), ("Alphabet", "members", ("Alphabet", some "members")), ("Drop", "text", ("Drop", some "text")), ("LastDrop", "text", ("LastDrop", some "text")), ("Write", "text", ("Write", some "text")), ("Once", "text", ("Once", some "text")), ("Add", "text", ("Add", some "text")), ("Rule", "text", ("Rule", some "text")), ("Lot", "texts", ("Lot", some "texts"))], ne := ["Alphabet"], e0 := ["Mixed"], tb := [("NUMBERS", NUMS)], em := [("TooMany", "TooMany", true)] }
noncomputable def ex : PySem.W.Frag → Bool := es.ok PP fm
abbrev Facts (w : World) (K : PySem.W.Frag) (mg : Str → Option Value) : Prop := Fc PP fa fnd fns fm ts es w K mg
theorem Zx9 {K : PySem.W.Frag} {w : World} {h : Heap} {mg : Str → Option Value} (X : K.In h) (G : h.Ns mainGlobals mg) (c : Zqe fa fnd fns fm ts ex w K) : Facts w K mg := ⟨⟨_, X, G⟩, c⟩
abbrev R : PySem.W.OpenRow := PySem.W.OpenLaw.row PySem.Challenge.rw_cliplore_k94_lots_at_the_very_bound
def loose : List PySem.Str := (["_wall", "ClipError", "BadAlphabet", "BadWord", "BadStage", "BadRule", "Mixed", "BadLot", "BadLimit", "TooMany", "SMALL", "all_different", "Alphabet", "NUMBERS", "LONGEST", "Stage", "Drop", "LastDrop", "Write", "Once", "Add", "read_drop", "read_stage", "SEPARATOR", "EMPTY", "Rule", "DEEPEST", "read_stages", "Lot", "_law_bag"] : List PySem.Str) ++ (["_law_take", "_law_forms", "_law_full", "_law_over"] : List PySem.Str)
noncomputable abbrev hk : PySem.W.Hook := Z2f 5 fa fnd fns fm ts ex
noncomputable def ob (s : PySem.W.SharedT) : ((AlT × Bool) × List FnS) × List He5.FnW := obsN 5 fa fnd fns fm ts ex (HandSHeadRun.getT s)
theorem Z8b (s : PySem.W.SharedT) : ob s = hk.obs s.abs := Z1s (HandSHeadRun.getT_eq s)
theorem Z4g (w : World) : RunA R (PySem.W.view R.prog [40]) 12000 loose (Zjs w true) := by
 intro os
 kernel_rfl
theorem Z4f (w : World) : RunB R 5 fa fnd ts 12000 (Zjs w true) := by
 intro os
 kernel_rfl
theorem Z4h (w : World) : Run2 R 5 fns fm ex 12000 (Zjs w true) := by
 intro os
 kernel_rfl
theorem Z7w (w : World) : HandSHeadRun.RunEq R (PySem.W.view R.prog [40]) hk ob 12000 loose (Zjs w true) := Zt6 (Zt7 (Z4g w) (Z4f w)) (Z4h w)
theorem Z4j (w : World) : RunA R (PySem.W.view R.prog [40]) 12000 loose (Zjs w false) := by
 intro os
 kernel_rfl
theorem Z4i (w : World) : RunB R 5 fa fnd ts 12000 (Zjs w false) := by
 intro os
 kernel_rfl
theorem Z4k (w : World) : Run2 R 5 fns fm ex 12000 (Zjs w false) := by
 intro os
 kernel_rfl
theorem Z7x (w : World) : HandSHeadRun.RunEq R (PySem.W.view R.prog [40]) hk ob 12000 loose (Zjs w false) := Zt6 (Zt7 (Z4j w) (Z4i w)) (Z4k w)
set_option maxHeartbeats 0 in
theorem run (w : World) : HandSHeadRun.RunEq R (PySem.W.view R.prog [40]) hk ob 12000 loose w := by
 cases h : w.params.followText "special-get-raises" with
 | true => have e := Zq1 h; have r := Z7w w; rw [e] at r; exact r
 | false => have e := Zq1 h; have r := Z7x w; rw [e] at r; exact r
end Cl.Kl
namespace Cl.Kl
open PySem PySem.Spec PyProof.Rows L2 He
def LoT : Prop := ∀ (w : World) (K : PySem.W.Frag) (h : Heap) (mg : Str → Option Value) (f : Addr), K.In h → h.Ns mainGlobals mg → mg ("law" : Str) = some (.ref f) → Zqe fa fnd fns fm ts ex w K → ∃ (fd : FuncData) (sp : Sp), (∀ (s : Shared) (v : Value), BindsTo s fd ⟨[v], []⟩ [("_law_script", v)]) ∧ (∀ (H : Hp) (a : Addr) (ns : List Int), ns.length ≤ 63 → Only H → SqL K H a (ns.map V.int) → sp [.ref a] H (fun v _ => v = .bl true) fun _ _ _ => False) ∧ ∀ base : Heap, K.In base → base.Ns mainGlobals mg → FnOk PP w K mg base CX0 13 f fd ["_law_script"] sp
end Cl.Kl
section
open PySem PySem.W PySem.Calls PyProof.Rows
set_option maxHeartbeats 0 in
theorem Cl.Kl.early (LO : Cl.Kl.LoT) : PySem.Challenge.rw_cliplore_k94_lots_at_the_very_bound.Holds := by
 w_on; o_law
 refine HandSHeadRun.head_any (r := OpenLaw.row PySem.Challenge.rw_cliplore_k94_lots_at_the_very_bound) (q := view (OpenLaw.row PySem.Challenge.rw_cliplore_k94_lots_at_the_very_bound).prog [40]) (H := Cl.Kl.hk) (ob := Cl.Kl.ob) (M := 12000) (loose := Cl.Kl.loose) (d := HandSHeadRun.topDef (OpenLaw.row PySem.Challenge.rw_cliplore_k94_lots_at_the_very_bound).prog 40) (kwd := []) Cl.Kl.Z8b
  (by kernel_rfl) (fun s => by kernel_rfl) Cl.Kl.run (by kernel_rfl) (by kernel_rfl) (by kernel_rfl) (by rfl) (by first | assumption | decide +kernel) (by decide +kernel) ⟨rfl, rfl, rfl, rfl, rfl, by decide +kernel⟩ ?hw ?hc
 case hw => w_witness2
 case hc =>
  refine L2.walk_ofE (l := PySem.Challenge.rw_cliplore_k94_lots_at_the_very_bound) (n := 63) (k := 13) (x := "_law_script") (CX := L2.CX0) rfl (by decide) (by kernel_rfl) ⟨rfl, by decide, by decide⟩ ?F (fun _ _ _ _ z => z)
  intro w mg f h Y G hmg0
  obtain ⟨K, KX, c⟩ := Y
  have hmg : mg ("law" : PySem.Str) = some (.ref f) := by
   have e : (HandSHeadRun.topDef (OpenLaw.row PySem.Challenge.rw_cliplore_k94_lots_at_the_very_bound).prog 40).name = ("law" : PySem.Str) := by kernel_rfl
   rw [← e]
   exact hmg0
  obtain ⟨fd, sp, hb, hs, hF⟩ := LO w K h mg f KX G hmg c
  exact ⟨K, fd, sp, KX, hb, hs, hF⟩
end
namespace Cl
open PySem PySem.Spec PyProof.Rows L2 He ClX
inductive Cn where
 | Alphabet | Stage | Drop | LastDrop | Write | Once | Add | Rule | ShapeReader | Stock | Machine | Readings | Lot | Book | Questions
 | ClipError | BadAlphabet | BadWord | BadStage | BadRule | BadShape | BadTable | Mixed | BadLot | BadLimit | TooMany | OutsideStock | NoRule | NoEntry | NoClass | NoHistory | BadDeed | NoPlan
 deriving DecidableEq
def Cn.str : Cn → Str
 | .Alphabet => "Alphabet" | .Stage => "Stage" | .Drop => "Drop" | .LastDrop => "LastDrop" | .Write => "Write" | .Once => "Once" | .Add => "Add" | .Rule => "Rule" | .ShapeReader => "ShapeReader" | .Stock => "Stock" | .Machine => "Machine" | .Readings => "Readings" | .Lot => "Lot" | .Book => "Book" | .Questions => "Questions"
 | .ClipError => "ClipError" | .BadAlphabet => "BadAlphabet" | .BadWord => "BadWord" | .BadStage => "BadStage" | .BadRule => "BadRule" | .BadShape => "BadShape" | .BadTable => "BadTable" | .Mixed => "Mixed" | .BadLot => "BadLot" | .BadLimit => "BadLimit" | .TooMany => "TooMany" | .OutsideStock => "OutsideStock" | .NoRule => "NoRule" | .NoEntry => "NoEntry" | .NoClass => "NoClass" | .NoHistory => "NoHistory" | .BadDeed => "BadDeed" | .NoPlan => "NoPlan"
inductive Fd where
 | letters | vowels | consonants | signs | alphabet | name | chosen | after | each | sign | stages | source | at_ | atoms | follows | rows | goods | first | ends | nodes | edges | finals | live | rules
 | lot | stock | classes | state | now | past | undone | queries | possible | shorts | known | part | word | what | stage | place | number | asked | fewest | way | index | one | two
 deriving DecidableEq
def Fd.str : Fd → Str
 | .letters => "letters" | .vowels => "vowels" | .consonants => "consonants" | .signs => "signs" | .alphabet => "alphabet" | .name => "name" | .chosen => "chosen" | .after => "after" | .each => "each" | .sign => "sign" | .stages => "stages" | .source => "source" | .at_ => "at" | .atoms => "atoms" | .follows => "follows" | .rows => "rows" | .goods => "goods" | .first => "first" | .ends => "ends" | .nodes => "nodes" | .edges => "edges" | .finals => "finals" | .live => "live" | .rules => "rules"
 | .lot => "lot" | .stock => "stock" | .classes => "classes" | .state => "state" | .now => "now" | .past => "past" | .undone => "undone" | .queries => "queries" | .possible => "possible" | .shorts => "shorts" | .known => "known" | .part => "part" | .word => "word" | .what => "what" | .stage => "stage" | .place => "place" | .number => "number" | .asked => "asked" | .fewest => "fewest" | .way => "way" | .index => "index" | .one => "one" | .two => "two"
def Cn.flds : Cn → List Fd
 | .Alphabet => [.letters, .vowels, .consonants, .signs]
 | .Stage => [.alphabet]
 | .Drop | .LastDrop => [.alphabet, .name, .chosen, .after, .each]
 | .Write => [.alphabet, .sign, .name, .chosen]
 | .Once => [.alphabet, .name, .chosen]
 | .Add => [.alphabet, .sign]
 | .Rule => [.alphabet, .stages]
 | .ShapeReader => [.alphabet, .source, .at_, .atoms, .follows]
 | .Stock => [.alphabet, .rows, .goods]
 | .Machine => [.alphabet, .first, .rows, .ends]
 | .Readings => [.signs, .nodes, .edges, .finals, .live]
 | .Lot => [.alphabet, .rules]
 | .Book => [.lot, .stock, .classes, .state, .now, .past, .undone]
 | .Questions => [.queries, .possible, .shorts, .known]
 | .BadAlphabet => [.part] | .BadWord => [.word] | .BadStage => [.what] | .BadRule => [.what, .stage] | .BadShape => [.place] | .BadTable => [.place] | .BadLot => [.number] | .BadLimit => [.asked] | .TooMany => [.number] | .OutsideStock => [.word] | .NoRule => [.fewest] | .NoEntry => [.number] | .NoClass => [.number] | .NoHistory => [.way] | .BadDeed => [.index] | .NoPlan => [.two, .one]
 | .ClipError | .Mixed => []
def Fd.all : List Fd := [.letters, .vowels, .consonants, .signs, .alphabet, .name, .chosen, .after, .each, .sign, .stages, .source, .at_, .atoms, .follows, .rows, .goods, .first, .ends, .nodes, .edges, .finals, .live, .rules, .lot, .stock, .classes, .state, .now, .past, .undone, .queries, .possible, .shorts, .known, .part, .word, .what, .stage, .place, .number, .asked, .fewest, .way, .index, .one, .two]
def Fd.of (x : Str) : Option Fd := Fd.all.find? fun f => decide (f.str = x)
theorem Fd.Zzh (f : Fd) : Fd.of f.str = some f := by cases f <;> decide +kernel
theorem Fd.inj {f g : Fd} (h : f.str = g.str) : f = g := Qx ((Fd.Zzh f).symm.trans ((congrArg Fd.of h).trans (Fd.Zzh g)))
theorem Cn.nodup (c : Cn) : c.flds.Nodup := by cases c <;> decide
def Cn.ix (c : Cn) (f : Fd) : Nat := c.flds.idxOf f
inductive PV where
 | non | bl (b : Bool) | int (i : Int) | str (z : List Nat) | lst (xs : List PV) | tup (xs : List PV) | obj (c : Cn) (xs : List PV) | ty (n : String) | cls (c : Cn) | dct (ks : List Key) (xs : List PV) | scr (ns : List Int)
inductive D where
 | v (x : PV) | cell (i : Nat) | exn (a : Addr)
inductive Cell where
 | lst (xs : List D) | obj (c : Cn) (xs : List D) | dct (kvs : List (Key × D)) | dtt (kvs : List (List Key × D)) | tpl (xs : List D) | dnn (es : List (PV × Int × D))
abbrev Mem := List (Option Cell)
abbrev DSt := List (Option D)
structure DErr where
 c : Cn
 xs : List PV
inductive A2 {α β : Type} (R : α → β → Prop) : List α → List β → Prop
 | nil : A2 R [] []
 | cons {a : α} {b : β} {as : List α} {bs : List β} : R a b → A2 R as bs → A2 R (a :: as) (b :: bs)
section
variable {α β : Type} {R S : α → β → Prop}
theorem A2.len : ∀ {as : List α} {bs : List β}, A2 R as bs → as.length = bs.length
 | _, _, .nil => rfl
 | _, _, .cons _ t => congrArg Nat.succ (A2.len t)
theorem A2.imp (f : ∀ a b, R a b → S a b) : ∀ {as : List α} {bs : List β}, A2 R as bs → A2 S as bs
 | _, _, .nil => .nil
 | _, _, .cons r t => .cons (f _ _ r) (A2.imp f t)
theorem A2.get : ∀ {as : List α} {bs : List β} {i : Nat} {a : α}, A2 R as bs → as[i]? = some a → ∃ b, bs[i]? = some b ∧ R a b
 | _, _, _, _, .nil, e => by simp at e
 | _, _, 0, _, .cons r _, e => by simp at e; subst e; exact ⟨_, rfl, r⟩
 | _, _, i + 1, a, .cons _ t, e => by
  obtain ⟨b, h1, h2⟩ := A2.get (i := i) (a := a) t (by simpa using e)
  exact ⟨b, by simpa using h1, h2⟩
theorem A2.set {a : α} {b : β} (r : R a b) : ∀ {as : List α} {bs : List β} (i : Nat), A2 R as bs → A2 R (as.set i a) (bs.set i b)
 | _, _, _, .nil => .nil
 | _, _, 0, .cons _ t => .cons r t
 | _, _, i + 1, .cons q t => .cons q (A2.set r i t)
theorem A2.append : ∀ {as cs : List α} {bs ds : List β}, A2 R as bs → A2 R cs ds → A2 R (as ++ cs) (bs ++ ds)
 | _, _, _, _, .nil, s => s
 | _, _, _, _, .cons r t, s => .cons r (A2.append t s)
theorem A2.take : ∀ {as : List α} {bs : List β} (n : Nat), A2 R as bs → A2 R (as.take n) (bs.take n)
 | _, _, 0, _ => .nil
 | _, _, _ + 1, .nil => .nil
 | _, _, n + 1, .cons r t => .cons r (A2.take n t)
theorem A2.drop : ∀ {as : List α} {bs : List β} (n : Nat), A2 R as bs → A2 R (as.drop n) (bs.drop n)
 | _, _, 0, r => r
 | _, _, _ + 1, .nil => .nil
 | _, _, n + 1, .cons _ t => A2.drop n t
theorem A2.erase : ∀ {as : List α} {bs : List β} (n : Nat), A2 R as bs → A2 R (as.eraseIdx n) (bs.eraseIdx n)
 | _, _, _, .nil => .nil
 | _, _, 0, .cons _ t => t
 | _, _, n + 1, .cons r t => .cons r (A2.erase n t)
theorem A2.reverse : ∀ {as : List α} {bs : List β}, A2 R as bs → A2 R as.reverse bs.reverse
 | _, _, .nil => .nil
 | _, _, .cons r t => by
  rw [Gx, Gx]
  exact (A2.reverse t).append (.cons r .nil)
theorem A2.map {γ δ : Type} {T : γ → δ → Prop} {f : γ → α} {g : δ → β} (h : ∀ c d, T c d → R (f c) (g d)) : ∀ {cs : List γ} {ds : List δ}, A2 T cs ds → A2 R (cs.map f) (ds.map g)
 | _, _, .nil => .nil
 | _, _, .cons r t => .cons (h _ _ r) (A2.map h t)
theorem A2.fn {f : α → β} (h : ∀ a b, R a b → b = f a) : ∀ {as : List α} {bs : List β}, A2 R as bs → bs = as.map f
 | _, _, .nil => rfl
 | _, _, .cons r t => by rw [h _ _ r, A2.fn h t]; rfl
theorem A2.refl {R : α → α → Prop} (h : ∀ a, R a a) : ∀ as : List α, A2 R as as
 | [] => .nil
 | a :: as => .cons (h a) (A2.refl h as)
theorem A2.of_map {γ : Type} {f : γ → α} {g : γ → β} (h : ∀ c, R (f c) (g c)) : ∀ cs : List γ, A2 R (cs.map f) (cs.map g)
 | [] => .nil
 | c :: cs => .cons (h c) (A2.of_map h cs)
end
def fz (c : Cn) (vs : List V) : List (Str × V) := (c.flds.map Fd.str).zip vs
mutual
def Rp (K : PySem.W.Frag) (cs : List Cn) (F : Hp) : PV → V → Prop
 | .non, v => v = .non
 | .bl b, v => v = .bl b
 | .int i, v => v = .int i
 | .str z, v => v = sv z
 | .ty n, v => v = .ty n
 | .cls c, v => v = .ref (ga K c.str)
 | .scr ns, v => ∃ a, v = .ref a ∧ SqL K F a (ns.map V.int)
 | .lst xs, v => ∃ a vs, v = .ref a ∧ F a = some (.lst vs) ∧ RpL K cs F xs vs
 | .tup xs, v => ∃ a vs, v = .ref a ∧ SqT K F a vs ∧ RpL K cs F xs vs
 | .obj c xs, v => ∃ a dx vs, v = .ref a ∧ F a = some (.ins (ga K c.str) dx (fz c vs)) ∧ c ∈ cs ∧ xs.length ≤ c.flds.length ∧ RpL K cs F xs vs
 | .dct ks xs, v => ∃ a vs, v = .ref a ∧ F a = some (.dK (ks.zip vs)) ∧ ks.length = xs.length ∧ RpL K cs F xs vs
def RpL (K : PySem.W.Frag) (cs : List Cn) (F : Hp) : List PV → List V → Prop
 | [], vs => vs = []
 | x :: xs, vs => ∃ v ws, vs = v :: ws ∧ Rp K cs F x v ∧ RpL K cs F xs ws
end
section
variable {K : PySem.W.Frag} {cs : List Cn} {F F' : Hp}
theorem Same.seqT {H H' : Hp} {a : Addr} {xs : List V} (e : Same H H') (h : SqT K H a xs) : SqT K H' a xs := by
 rcases h with (h | ⟨o, h⟩) | h
 ·exact .inl (.inl (e _ _ h))
 ·exact .inl (.inr ⟨o, e _ _ h⟩)
 ·exact .inr h
mutual
theorem Rp.same (s : Same F F') : ∀ (x : PV) (v : V), Rp K cs F x v → Rp K cs F' x v
 | .non, _, h => h
 | .bl _, _, h => h
 | .int _, _, h => h
 | .str _, _, h => h
 | .ty _, _, h => h
 | .cls _, _, h => h
 | .scr _, _, ⟨a, e, h1⟩ => ⟨a, e, s.seq h1⟩
 | .lst xs, _, ⟨a, vs, e, h1, h2⟩ => ⟨a, vs, e, s _ _ h1, RpL.same s xs vs h2⟩
 | .tup xs, _, ⟨a, vs, e, h1, h2⟩ => ⟨a, vs, e, Same.seqT s h1, RpL.same s xs vs h2⟩
 | .obj _ xs, _, ⟨a, dx, vs, e, h1, h2, h4, h3⟩ => ⟨a, dx, vs, e, s _ _ h1, h2, h4, RpL.same s xs vs h3⟩
 | .dct _ xs, _, ⟨a, vs, e, h1, h2, h3⟩ => ⟨a, vs, e, s _ _ h1, h2, RpL.same s xs vs h3⟩
theorem RpL.same (s : Same F F') : ∀ (xs : List PV) (vs : List V), RpL K cs F xs vs → RpL K cs F' xs vs
 | [], _, h => h
 | x :: xs, _, ⟨v, ws, e, h1, h2⟩ => ⟨v, ws, e, Rp.same s x v h1, RpL.same s xs ws h2⟩
end
theorem RpL.a2 : ∀ {xs : List PV} {vs : List V}, RpL K cs F xs vs → A2 (Rp K cs F) xs vs
 | [], _, h => by cases (show _ = [] from h); exact .nil
 | x :: xs, _, ⟨v, ws, e, h1, h2⟩ => by cases e; exact .cons h1 h2.a2
theorem A2.rpL : ∀ {xs : List PV} {vs : List V}, A2 (Rp K cs F) xs vs → RpL K cs F xs vs
 | _, _, .nil => (rfl : ([] : List V) = [])
 | _, _, .cons h t => ⟨_, _, rfl, h, t.rpL⟩
theorem RpL.len {xs : List PV} {vs : List V} (h : RpL K cs F xs vs) : xs.length = vs.length := h.a2.len
structure CS where
 F : Hp
 ρ : List Addr
 H : Hp
def RpD (K : PySem.W.Frag) (cs : List Cn) (F : Hp) (ρ : List Addr) : D → V → Prop
 | .v x, v => Rp K cs F x v
 | .cell i, v => ∃ a, ρ[i]? = some a ∧ v = .ref a
 | .exn a, v => v = .ref a
def RpKD {κ : Type} (K : PySem.W.Frag) (cs : List Cn) (F : Hp) (ρ : List Addr) (p : κ × D) (q : κ × V) : Prop := p.1 = q.1 ∧ RpD K cs F ρ p.2 q.2
def DnO (a : Addr) (ys : List (Int × Addr × V)) : Heap → Prop := fun h => ∃ o ep ens, h.get? a = some o ∧ o.ExactDict ∧ o.data = .dict ens ep ∧ A2 (fun (y : Int × Addr × V) (en : DictEntry) => en.hash = y.1 ∧ en.key = .ref y.2.1 ∧ RelV y.2.2 en.val) ys ens.toList
def RpN (K : PySem.W.Frag) (cs : List Cn) (F : Hp) (ρ : List Addr) (p : PV × Int × D) (q : Int × Addr × V) : Prop := p.2.1 = q.1 ∧ Rp K cs F p.1 (.ref q.2.1) ∧ RpD K cs F ρ p.2.2 q.2.2
def RpC (K : PySem.W.Frag) (cs : List Cn) (F : Hp) (ρ : List Addr) (a : Addr) : Cell → HO → Prop
 | .lst ds, o => ∃ vs, o = .lst vs ∧ A2 (RpD K cs F ρ) ds vs
 | .obj c ds, o => ∃ dx vs, o = .ins (ga K c.str) dx (fz c vs) ∧ c ∈ cs ∧ ds.length ≤ c.flds.length ∧ A2 (RpD K cs F ρ) ds vs
 | .dct ds, o => ∃ vs, o = .dK vs ∧ A2 (RpKD K cs F ρ) ds vs
 | .dtt ds, o => ∃ vs, o = .dT vs ∧ A2 (RpKD K cs F ρ) ds vs
 | .tpl ds, o => ∃ vs, o = .tup vs ∧ A2 (RpD K cs F ρ) ds vs
 | .dnn es, o => ∃ ys, o = .ext (DnO a ys) ∧ (a == sysModules) = false ∧ A2 (RpN K cs F ρ) es ys
def Live (ρ : List Addr) (M : Mem) (a : Addr) : Prop := ∃ (i : Nat) (x : Cell), ρ[i]? = some a ∧ M[i]? = some (some x)
structure Rel (K : PySem.W.Frag) (cs : List Cn) (c : CS) (M : Mem) : Prop where
 same : Same c.F c.H
 len : c.ρ.length = M.length
 nd : c.ρ.Nodup
 isin : ∀ a ∈ c.ρ, c.H a ≠ none
 live : ∀ (i : Nat) (a : Addr) (x : Cell), c.ρ[i]? = some a → M[i]? = some (some x) → c.F a = none ∧ ∃ o, c.H a = some o ∧ RpC K cs c.F c.ρ a x o
structure Step (c : CS) (M : Mem) (c' : CS) (M' : Mem) : Prop where
 same : Same c.F c'.F
 pre : c.ρ <+: c'.ρ
 frame : ∀ a o, c.H a = some o → c.F a = none → ¬ Live c.ρ M a → c'.H a = some o ∧ c'.F a = none ∧ ¬ Live c'.ρ M' a
theorem Step.refl (c : CS) (M : Mem) : Step c M c M := ⟨Same.refl _, Hh _, fun _ _ h1 h2 h3 => ⟨h1, h2, h3⟩⟩
theorem Step.trans {c c1 c2 : CS} {M M1 M2 : Mem} (a : Step c M c1 M1) (b : Step c1 M1 c2 M2) : Step c M c2 M2 :=
 ⟨a.same.trans b.same, a.pre.trans b.pre, fun x o h1 h2 h3 => let ⟨g1, g2, g3⟩ := a.frame x o h1 h2 h3; b.frame x o g1 g2 g3⟩
theorem Zey {α : Type} {l m : List α} (h : l <+: m) {i : Nat} {a : α} (e : l[i]? = some a) : m[i]? = some a := by
 obtain ⟨t, rfl⟩ := h
 exact (Q0 (Qa.mp e).1).trans e
theorem RpD.mono {ρ ρ' : List Addr} (s : Same F F') (p : ρ <+: ρ') : ∀ {d : D} {v : V}, RpD K cs F ρ d v → RpD K cs F' ρ' d v
 | .v x, v, h => Rp.same s x v h
 | .cell _, _, ⟨a, e, h⟩ => ⟨a, Zey p e, h⟩
 | .exn _, _, h => h
theorem RpC.mono {ρ ρ' : List Addr} {a : Addr} (s : Same F F') (p : ρ <+: ρ') : ∀ {x : Cell} {o : HO}, RpC K cs F ρ a x o → RpC K cs F' ρ' a x o
 | .lst _, _, ⟨vs, e, h⟩ => ⟨vs, e, h.imp fun _ _ => RpD.mono s p⟩
 | .obj _ _, _, ⟨dx, vs, e, h1, h3, h2⟩ => ⟨dx, vs, e, h1, h3, h2.imp fun _ _ => RpD.mono s p⟩
 | .dct _, _, ⟨vs, e, h⟩ => ⟨vs, e, h.imp fun _ _ q => ⟨q.1, RpD.mono s p q.2⟩⟩
 | .dtt _, _, ⟨vs, e, h⟩ => ⟨vs, e, h.imp fun _ _ q => ⟨q.1, RpD.mono s p q.2⟩⟩
 | .tpl _, _, ⟨vs, e, h⟩ => ⟨vs, e, h.imp fun _ _ => RpD.mono s p⟩
 | .dnn _, _, ⟨ys, e, h0, h⟩ => ⟨ys, e, h0, h.imp fun _ _ q => ⟨q.1, Rp.same s _ _ q.2.1, RpD.mono s p q.2.2⟩⟩
def RpS (K : PySem.W.Frag) (cs : List Cn) (c : CS) (ds : DSt) (σ : L2.St) : Prop := ds.length = σ.length ∧ ∀ (i : Nat) (d : D), ds[i]? = some (some d) → ∃ v, σ[i]? = some (some v) ∧ RpD K cs c.F c.ρ d v
theorem RpS.step {c c' : CS} {M M' : Mem} {ds : DSt} {σ : L2.St} (h : RpS K cs c ds σ) (s : Step c M c' M') : RpS K cs c' ds σ :=
 ⟨h.1, fun i d e => let ⟨v, h1, h2⟩ := h.2 i d e; ⟨v, h1, h2.mono s.same s.pre⟩⟩
theorem RpS.set {c : CS} {ds : DSt} {σ : L2.St} (h : RpS K cs c ds σ) {i : Nat} {d : D} {v : V} (r : RpD K cs c.F c.ρ d v) : RpS K cs c (ds.set i (some d)) (σ.set i (some v)) := by
 refine ⟨by simpa using h.1, fun j e q => ?_⟩
 by_cases hj : i = j
 ·subst hj
  have hl : i < ds.length := by
   have := (Qa.mp q).1
   simpa using this
  rw [Qt hl] at q
  cases q
  exact ⟨v, Qt (by rw [← h.1]; exact hl), r⟩
 ·rw [Q3 hj] at q
  rw [Q3 hj]
  exact h.2 j e q
theorem RpS.Z3d {c : CS} {ds : DSt} {σ : L2.St} (h : RpS K cs c ds σ) (i : Nat) : RpS K cs c (ds.set i none) (σ.set i none) := by
 refine ⟨by simpa using h.1, fun j e q => ?_⟩
 by_cases hj : i = j
 ·subst hj
  have hl : i < ds.length := by
   have := (Qa.mp q).1
   simpa using this
  rw [Qt hl] at q
  cases q
 ·rw [Q3 hj] at q
  rw [Q3 hj]
  exact h.2 j e q
def RpX (K : PySem.W.Frag) (cs : List Cn) (c : CS) (e : DErr) (cls : Value) (d : Option Addr) : Prop := cls = .ref (ga K e.c.str) ∧ match e.xs with
 | [] => d = none
 | xs => ∃ dd vs, d = some dd ∧ c.F dd = some (.xd ((e.c.flds.map Fd.str).zip vs)) ∧ RpL K cs c.F xs vs
theorem Rel.fresh {c : CS} {M : Mem} (r : Rel K cs c M) {p : Addr} (h : c.H p = none) : c.F p = none ∧ p ∉ c.ρ :=
 ⟨r.same.free h, fun m => r.isin p m h⟩
theorem Rel.Z4u {c : CS} {M : Mem} (r : Rel K cs c M) {p : Addr} (h : c.H p = none) : ¬ Live c.ρ M p := fun ⟨i, x, e, _⟩ => (r.fresh h).2 (Qr e)
theorem Rel.lay {c : CS} {M : Mem} (r : Rel K cs c M) {p : Addr} (h : c.H p = none) (o : HO) : Rel K cs ⟨upd c.F p o, c.ρ, upd c.H p o⟩ M ∧ Step c M ⟨upd c.F p o, c.ρ, upd c.H p o⟩ M := by
 obtain ⟨hF, hρ⟩ := r.fresh h
 have sF : Same c.F (upd c.F p o) := Za3 hF
 refine ⟨⟨fun b u e => ?_, r.len, r.nd, fun a m => ?_, fun i a x e q => ?_⟩, ⟨sF, Hh _, fun a u h1 h2 h3 => ?_⟩⟩
 ·try dsimp only at *
  by_cases hb : b = p
  ·rw [hb] at e ⊢
   rw [upd_same] at e
   rw [upd_same]
   exact e
  ·rw [upd_ne hb] at e
   rw [upd_ne hb]
   exact r.same b u e
 ·try dsimp only at *
  have hne : a ≠ p := fun q => hρ (q ▸ m)
  rw [upd_ne hne]
  exact r.isin a m
 ·try dsimp only at *
  have hne : a ≠ p := fun q => hρ (q ▸ Qr e)
  obtain ⟨h1, u, h2, h3⟩ := r.live i a x e q
  refine ⟨by rw [upd_ne hne]; exact h1, u, by rw [upd_ne hne]; exact h2, h3.mono sF (Hh _)⟩
 ·try dsimp only at *
  have hne : a ≠ p := fun q => by rw [q, h] at h1; cases h1
  exact ⟨by rw [upd_ne hne]; exact h1, by rw [upd_ne hne]; exact h2, h3⟩
theorem Rel.Zoz {c : CS} {M : Mem} (r : Rel K cs c M) {p : Addr} (h : c.H p = none) (o : HO) : Rel K cs ⟨c.F, c.ρ, upd c.H p o⟩ M ∧ Step c M ⟨c.F, c.ρ, upd c.H p o⟩ M := by
 obtain ⟨hF, hρ⟩ := r.fresh h
 refine ⟨⟨r.same.trans (Za3 h), r.len, r.nd, fun a m => ?_, fun i a x e q => ?_⟩, ⟨Same.refl _, Hh _, fun a u h1 h2 h3 => ?_⟩⟩
 ·try dsimp only at *
  have hne : a ≠ p := fun q => hρ (q ▸ m)
  rw [upd_ne hne]
  exact r.isin a m
 ·try dsimp only at *
  have hne : a ≠ p := fun q => hρ (q ▸ Qr e)
  obtain ⟨h1, u, h2, h3⟩ := r.live i a x e q
  exact ⟨h1, u, by rw [upd_ne hne]; exact h2, h3⟩
 ·try dsimp only at *
  have hne : a ≠ p := fun q => by rw [q, h] at h1; cases h1
  exact ⟨by rw [upd_ne hne]; exact h1, h2, h3⟩
theorem Rel.Zk0 {c : CS} {M : Mem} (r : Rel K cs c M) {p : Addr} {u : HO} (h : c.H p = some u) (hF : c.F p = none) (hl : ¬ Live c.ρ M p) (o : HO) : Rel K cs ⟨c.F, c.ρ, upd c.H p o⟩ M := by
 refine ⟨fun b v e => ?_, r.len, r.nd, fun a m => ?_, fun i a x e q => ?_⟩
 ·try dsimp only at *
  have hne : b ≠ p := fun q => by rw [q, hF] at e; cases e
  rw [upd_ne hne]
  exact r.same b v e
 ·try dsimp only at *
  by_cases hb : a = p
  ·rw [hb, upd_same]
   exact fun z => by cases z
  ·rw [upd_ne hb]
   exact r.isin a m
 ·try dsimp only at *
  have hne : a ≠ p := fun z => hl ⟨i, x, z ▸ e, q⟩
  obtain ⟨h1, v, h2, h3⟩ := r.live i a x e q
  exact ⟨h1, v, by rw [upd_ne hne]; exact h2, h3⟩
theorem Rel.Zk1 {c : CS} {M : Mem} (r : Rel K cs c M) {p : Addr} {o : HO} (h : c.H p = some o) (hF : c.F p = none) (hl : ¬ Live c.ρ M p) : Rel K cs ⟨upd c.F p o, c.ρ, c.H⟩ M := by
 have sF : Same c.F (upd c.F p o) := Za3 hF
 refine ⟨fun b v e => ?_, r.len, r.nd, r.isin, fun i a x e q => ?_⟩
 ·try dsimp only at *
  by_cases hb : b = p
  ·rw [hb] at e ⊢
   rw [upd_same] at e
   cases e
   exact h
  ·rw [upd_ne hb] at e
   exact r.same b v e
 ·try dsimp only at *
  have hne : a ≠ p := fun z => hl ⟨i, x, z ▸ e, q⟩
  obtain ⟨h1, v, h2, h3⟩ := r.live i a x e q
  exact ⟨by rw [upd_ne hne]; exact h1, v, h2, h3.mono sF (Hh _)⟩
theorem Rel.newc {c : CS} {M : Mem} (r : Rel K cs c M) {p : Addr} (h : c.H p = none) {o : HO} {x : Cell} (q : RpC K cs c.F c.ρ p x o) : Rel K cs ⟨c.F, c.ρ ++ [p], upd c.H p o⟩ (M ++ [some x]) ∧ Step c M ⟨c.F, c.ρ ++ [p], upd c.H p o⟩ (M ++ [some x]) := by
 obtain ⟨hF, hρ⟩ := r.fresh h
 have pr : c.ρ <+: c.ρ ++ [p] := List.prefix_append _ _
 have key : ∀ (i : Nat) (a : Addr) (y : Cell), (c.ρ ++ [p])[i]? = some a → (M ++ [some x])[i]? = some (some y) → (c.ρ[i]? = some a ∧ M[i]? = some (some y)) ∨ (a = p ∧ y = x) := fun i a y e e' => by
  by_cases hi : i < c.ρ.length
  ·rw [Q0 hi] at e
   rw [Q0 (by rw [← r.len]; exact hi)] at e'
   exact .inl ⟨e, e'⟩
  ·rw [Ho (by omega)] at e
   rw [Ho (by rw [← r.len]; omega), ← r.len] at e'
   have h0 : i - c.ρ.length = 0 := by
    have := (Qa.mp e).1
    simp at this
    omega
   rw [h0] at e e'
   simp at e e'
   exact .inr ⟨e.symm, e'.symm⟩
 refine ⟨⟨r.same.trans (Za3 h), by simp [r.len], ?_, fun a m => ?_, fun i a y e e' => ?_⟩, ⟨Same.refl _, pr, fun a u h1 h2 h3 => ?_⟩⟩
 ·try dsimp only at *
  rw [Hv]
  refine ⟨r.nd, by simp, fun a ha b hb e => ?_⟩
  simp at hb
  subst hb e
  exact hρ ha
 ·try dsimp only at *
  by_cases hb : a = p
  ·rw [hb, upd_same]
   exact fun z => by cases z
  ·rw [upd_ne hb]
   rcases Q2.mp m with m | m
   ·exact r.isin a m
   ·simp at m
    exact absurd m hb
 ·try dsimp only at *
  rcases key i a y e e' with ⟨e1, e2⟩ | ⟨rfl, rfl⟩
  ·obtain ⟨h1, u, h2, h3⟩ := r.live i a y e1 e2
   have hne : a ≠ p := fun z => hρ (z ▸ Qr e1)
   exact ⟨h1, u, by rw [upd_ne hne]; exact h2, h3.mono (Same.refl _) pr⟩
  ·exact ⟨hF, o, upd_same, q.mono (Same.refl _) pr⟩
 ·try dsimp only at *
  have hne : a ≠ p := fun q => by rw [q, h] at h1; cases h1
  refine ⟨by rw [upd_ne hne]; exact h1, h2, fun ⟨i, y, e, e'⟩ => ?_⟩
  rcases key i a y e e' with ⟨e1, e2⟩ | ⟨rfl, rfl⟩
  ·exact h3 ⟨i, y, e1, e2⟩
  ·exact hne rfl
theorem Rel.setc {c : CS} {M : Mem} (r : Rel K cs c M) {i : Nat} {a : Addr} {x y : Cell} {o : HO} (e : c.ρ[i]? = some a) (m : M[i]? = some (some x)) (q : RpC K cs c.F c.ρ a y o) : Rel K cs ⟨c.F, c.ρ, upd c.H a o⟩ (M.set i (some y)) ∧ Step c M ⟨c.F, c.ρ, upd c.H a o⟩ (M.set i (some y)) := by
 obtain ⟨hF, u, hH, hq⟩ := r.live i a x e m
 have hiM : i < M.length := (Qa.mp m).1
 refine ⟨⟨fun b v h => ?_, by simp [r.len], r.nd, fun b hb => ?_, fun j b z e' m' => ?_⟩, ⟨Same.refl _, Hh _, fun b v h1 h2 h3 => ?_⟩⟩
 ·try dsimp only at *
  have hne : b ≠ a := fun z => by rw [z, hF] at h; cases h
  rw [upd_ne hne]
  exact r.same b v h
 ·try dsimp only at *
  by_cases hb' : b = a
  ·rw [hb', upd_same]
   exact fun z => by cases z
  ·rw [upd_ne hb']
   exact r.isin b hb
 ·try dsimp only at *
  by_cases hj : i = j
  ·subst hj
   have : a = b := Qx (e.symm.trans e')
   subst this
   rw [Qt hiM] at m'
   cases m'
   exact ⟨hF, o, upd_same, q⟩
  ·rw [Q3 hj] at m'
   obtain ⟨h1, w, h2, h3⟩ := r.live j b z e' m'
   have hne : b ≠ a := fun q => by
    subst q
    obtain ⟨h4, e4⟩ := Qa.mp e
    obtain ⟨h5, e5⟩ := Qa.mp e'
    exact hj ((List.getElem_inj r.nd).mp (e4.trans e5.symm))
   exact ⟨h1, w, by rw [upd_ne hne]; exact h2, h3⟩
 ·try dsimp only at *
  have hne : b ≠ a := fun z => h3 ⟨i, x, z ▸ e, m⟩
  refine ⟨by rw [upd_ne hne]; exact h1, h2, fun ⟨j, z, e', m'⟩ => ?_⟩
  by_cases hj : i = j
  ·subst hj
   exact hne (Qx (e'.symm.trans e))
  ·rw [Q3 hj] at m'
   exact h3 ⟨j, z, e', m'⟩
theorem Rel.freeze {c : CS} {M : Mem} (r : Rel K cs c M) {i : Nat} {a : Addr} {x : Cell} (e : c.ρ[i]? = some a) (m : M[i]? = some (some x)) : ∃ o, c.H a = some o ∧ RpC K cs c.F c.ρ a x o ∧ c.F a = none ∧ Rel K cs ⟨upd c.F a o, c.ρ, c.H⟩ (M.set i none) ∧ Step c M ⟨upd c.F a o, c.ρ, c.H⟩ (M.set i none) := by
 obtain ⟨hF, o, hH, hq⟩ := r.live i a x e m
 have hiM : i < M.length := (Qa.mp m).1
 have sF : Same c.F (upd c.F a o) := Za3 hF
 refine ⟨o, hH, hq, hF, ⟨fun b v h => ?_, by simp [r.len], r.nd, r.isin, fun j b z e' m' => ?_⟩, ⟨sF, Hh _, fun b v h1 h2 h3 => ?_⟩⟩
 ·try dsimp only at *
  by_cases hb : b = a
  ·rw [hb] at h ⊢
   rw [upd_same] at h
   cases h
   exact hH
  ·rw [upd_ne hb] at h
   exact r.same b v h
 ·try dsimp only at *
  by_cases hj : i = j
  ·subst hj
   rw [Qt hiM] at m'
   cases m'
  ·rw [Q3 hj] at m'
   obtain ⟨h1, w, h2, h3⟩ := r.live j b z e' m'
   have hne : b ≠ a := fun q => by
    subst q
    obtain ⟨h4, e4⟩ := Qa.mp e
    obtain ⟨h5, e5⟩ := Qa.mp e'
    exact hj ((List.getElem_inj r.nd).mp (e4.trans e5.symm))
   exact ⟨by rw [upd_ne hne]; exact h1, w, h2, h3.mono sF (Hh _)⟩
 ·try dsimp only at *
  have hne : b ≠ a := fun z => h3 ⟨i, x, z ▸ e, m⟩
  refine ⟨h1, by rw [upd_ne hne]; exact h2, fun ⟨j, z, e', m'⟩ => ?_⟩
  by_cases hj : i = j
  ·subst hj
   rw [Qt hiM] at m'
   cases m'
  ·rw [Q3 hj] at m'
   exact h3 ⟨j, z, e', m'⟩
def Zat : List D → Option (List PV)
 | [] => some []
 | .v x :: r => (Zat r).map (x :: ·)
 | .cell _ :: _ => none
 | .exn _ :: _ => none
theorem Zbg (xs : List PV) : Zat (xs.map D.v) = some xs := by
 induction xs with
 | nil => rfl
 | cons x r ih =>
  show (Zat (r.map D.v)).map (x :: ·) = _
  rw [ih]
  rfl
theorem Zdl : ∀ {ds : List D} {xs : List PV}, Zat ds = some xs → ds = xs.map D.v
 | [], xs, h => by cases h; rfl
 | .v x :: r, xs, h => by
  cases q : Zat r with
  | none =>
   have : (Zat r).map (x :: ·) = some xs := h
   rw [q] at this
   cases this
  | some ys =>
   have : (Zat r).map (x :: ·) = some xs := h
   rw [q] at this
   cases this
   rw [Zdl q]
   rfl
 | .cell _ :: _, xs, h => by cases h
 | .exn _ :: _, xs, h => by cases h
theorem A2.pure {ρ : List Addr} : ∀ {xs : List PV} {vs : List V}, A2 (RpD K cs F ρ) (xs.map D.v) vs → RpL K cs F xs vs
 | [], _, h => by cases h; exact (rfl : ([] : List V) = [])
 | x :: xs, _, h => by
  cases h with
  | cons r t => exact ⟨_, _, rfl, r, A2.pure t⟩
theorem RpL.ds {ρ : List Addr} : ∀ {xs : List PV} {vs : List V}, RpL K cs F xs vs → A2 (RpD K cs F ρ) (xs.map D.v) vs
 | [], _, h => by cases (show _ = [] from h); exact .nil
 | x :: xs, _, ⟨v, ws, e, h1, h2⟩ => by cases e; exact .cons h1 (RpL.ds h2)
def Cell.low (n : Nat) : Cell → Prop
 | .lst ds | .obj _ ds | .tpl ds => ∀ i, D.cell i ∈ ds → i < n
 | .dct ds => ∀ k i, (k, D.cell i) ∈ ds → i < n
 | .dtt ds => ∀ k i, (k, D.cell i) ∈ ds → i < n
 | .dnn es => ∀ k z i, (k, z, D.cell i) ∈ es → i < n
theorem RpD.low {ρ : List Addr} {n : Nat} {d : D} {v : V} (h : RpD K cs F ρ d v) (hl : ∀ i, d = .cell i → i < n) : RpD K cs F (ρ.take n) d v := by
 cases d with
 | v x => exact h
 | cell i =>
  obtain ⟨a, e, q⟩ := h
  exact ⟨a, by rw [Hc (hl i rfl)]; exact e, q⟩
 | exn a => exact h
theorem A2.impM {α β : Type} {R S : α → β → Prop} : ∀ {as : List α} {bs : List β}, A2 R as bs → (∀ a ∈ as, ∀ b, R a b → S a b) → A2 S as bs
 | _, _, .nil, _ => .nil
 | _, _, .cons r t, f => .cons (f _ Qp _ r) (t.impM fun a m => f a (Qh _ m))
theorem RpC.low {ρ : List Addr} {n : Nat} {a : Addr} : ∀ {x : Cell} {o : HO}, RpC K cs F ρ a x o → x.low n → RpC K cs F (ρ.take n) a x o
 | .lst _, _, ⟨vs, e, h⟩, l => ⟨vs, e, h.impM fun d m v r => r.low fun i q => l i (q ▸ m)⟩
 | .obj _ _, _, ⟨dx, vs, e, h1, h3, h2⟩, l => ⟨dx, vs, e, h1, h3, h2.impM fun d m v r => r.low fun i q => l i (q ▸ m)⟩
 | .dct _, _, ⟨vs, e, h⟩, l => ⟨vs, e, h.impM fun d m v r => ⟨r.1, r.2.low fun i q => l d.1 i (by rw [← q]; exact m)⟩⟩
 | .dtt _, _, ⟨vs, e, h⟩, l => ⟨vs, e, h.impM fun d m v r => ⟨r.1, r.2.low fun i q => l d.1 i (by rw [← q]; exact m)⟩⟩
 | .tpl _, _, ⟨vs, e, h⟩, l => ⟨vs, e, h.impM fun d m v r => r.low fun i q => l i (q ▸ m)⟩
 | .dnn _, _, ⟨vs, e, h0, h⟩, l => ⟨vs, e, h0, h.impM fun d m v r => ⟨r.1, r.2.1, r.2.2.low fun i q => l d.1 d.2.1 i (by rw [← q]; exact m)⟩⟩
theorem RpC.Z4z {ρ : List Addr} {a : Addr} : ∀ {x : Cell} {o : HO}, RpC K cs F ρ a x o → x.low ρ.length := by
 have key : ∀ {ds : List D} {vs : List V}, A2 (RpD K cs F ρ) ds vs → ∀ i, D.cell i ∈ ds → i < ρ.length := by
  intro ds vs h
  induction h with
  | nil => intro i m; cases m
  | cons r t ih =>
   intro i m
   rcases Qg.mp m with e | m
   ·subst e
    obtain ⟨a, e, _⟩ := r
    exact (Qa.mp e).1
   ·exact ih i m
 have keyK : ∀ {κ : Type} {ds : List (κ × D)} {vs : List (κ × V)}, A2 (RpKD K cs F ρ) ds vs → ∀ k i, (k, D.cell i) ∈ ds → i < ρ.length := by
  intro κ ds vs h
  induction h with
  | nil => intro k i m; cases m
  | cons r t ih =>
   intro k i m
   rcases Qg.mp m with e | m
   ·obtain ⟨_, r⟩ := r
    rw [← e] at r
    obtain ⟨a, e, _⟩ := r
    exact (Qa.mp e).1
   ·exact ih k i m
 intro x o h
 cases x with
 | lst ds => obtain ⟨vs, e, h⟩ := h; exact key h
 | obj c ds => obtain ⟨dx, vs, e, h1, h3, h⟩ := h; exact key h
 | dct ds => obtain ⟨vs, e, h⟩ := h; exact keyK h
 | dtt ds => obtain ⟨vs, e, h⟩ := h; exact keyK h
 | tpl ds => obtain ⟨vs, e, h⟩ := h; exact key h
 | dnn es =>
  obtain ⟨ys, e, h0, h⟩ := h
  intro k z i m
  have keyN : ∀ {es : List (PV × Int × D)} {ys : List (Int × Addr × V)}, A2 (RpN K cs F ρ) es ys → ∀ k z i, (k, z, D.cell i) ∈ es → i < ρ.length := by
   intro es ys h
   induction h with
   | nil => intro k z i m; cases m
   | cons r t ih =>
    intro k z i m
    rcases Qg.mp m with e | m
    ·obtain ⟨_, _, r⟩ := r
     rw [← e] at r
     obtain ⟨b, e, _⟩ := r
     exact (Qa.mp e).1
    ·exact ih k z i m
  exact keyN h k z i m
def Exit (M M' : Mem) : Prop := M.length ≤ M'.length ∧ ∀ (i : Nat) (x : Cell), i < M.length → M'[i]? = some (some x) → M[i]? = some (some x) ∨ x.low M.length
theorem Rel.cut {c c' : CS} {M M' : Mem} (r : Rel K cs c M) (r' : Rel K cs c' M') (s : Step c M c' M') (ex : Exit M M') : Rel K cs ⟨c'.F, c'.ρ.take M.length, c'.H⟩ (M'.take M.length) ∧ Step c M ⟨c'.F, c'.ρ.take M.length, c'.H⟩ (M'.take M.length) ∧ c'.ρ.take M.length = c.ρ := by
 have eρ : c'.ρ.take M.length = c.ρ := by
  obtain ⟨t, e⟩ := s.pre
  rw [← e, ← r.len, Gm]
  rfl
 have hlen : M.length ≤ c'.ρ.length := by rw [r'.len]; exact ex.1
 refine ⟨⟨r'.same, ?_, ?_, fun a m => r'.isin a (Q5 m), fun i a x e m => ?_⟩, ⟨s.same, by show c.ρ <+: c'.ρ.take M.length; rw [eρ]; exact Hh _, fun a o h1 h2 h3 => ?_⟩, eρ⟩
 ·show (c'.ρ.take M.length).length = (M'.take M.length).length
  rw [Qw, Qw, r'.len]
 ·exact r'.nd.sublist (Hl _ _)
 ·have hi : i < M.length := by
   have h := (Qa.mp m).1
   rw [Qw] at h
   omega
  have e1 : c'.ρ[i]? = some a := by
   have : (c'.ρ.take M.length)[i]? = some a := e
   rw [Hc hi] at this
   exact this
  have m1 : M'[i]? = some (some x) := by
   rw [Hc hi] at m
   exact m
  obtain ⟨h1, o, h2, h3⟩ := r'.live i a x e1 m1
  refine ⟨h1, o, h2, ?_⟩
  show RpC K cs c'.F (c'.ρ.take M.length) a x o
  rcases ex.2 i x hi m1 with q | q
  ·have e0 : c.ρ[i]? = some a := by
    have : (c'.ρ.take M.length)[i]? = some a := e
    rw [eρ] at this
    exact this
   obtain ⟨_, o', _, h5⟩ := r.live i a x e0 q
   have hl := h5.Z4z
   rw [r.len] at hl
   exact h3.low hl
  ·exact h3.low q
 ·obtain ⟨g1, g2, g3⟩ := s.frame a o h1 h2 h3
  refine ⟨g1, g2, fun ⟨i, x, e, m⟩ => g3 ⟨i, x, ?_, ?_⟩⟩
  ·exact Qr e |> fun _ => by
    have hi : i < M.length := by
     have h := (Qa.mp m).1
     rw [Qw] at h
     omega
    have : (c'.ρ.take M.length)[i]? = some a := e
    rw [Hc hi] at this
    exact this
  ·have hi : i < M.length := by
    have h := (Qa.mp m).1
    rw [Qw] at h
    omega
   rw [Hc hi] at m
   exact m
end
class Wg (g : Prop) (n : outParam Prop) : Prop where
 go : n → g
abbrev DQ := D → Mem → Prop
abbrev DE := DSt → Mem → DQ → Prop
abbrev DT := DSt → Mem → (Bool → Mem → Prop) → Prop
abbrev DA := DSt → Mem → (List D → Mem → Prop) → Prop
structure Zd8 where
 nx : DSt → Mem → Prop
 rt : DQ
 bk : DSt → Mem → Prop := fun _ _ => False
 ct : DSt → Mem → Prop := fun _ _ => False
abbrev DS := Zd8 → DSt → Mem → Prop
abbrev DG := D → DSt → Mem → (DSt → Mem → Prop) → Prop
abbrev DGs := List D → DSt → Mem → (DSt → Mem → Prop) → Prop
abbrev DI := DSt → Mem → (List D → Mem → Prop) → Prop
abbrev DO := DSt → Mem → (Option Int → Mem → Prop) → Prop
abbrev DX := DErr → Mem → Prop
abbrev DSp := List D → Mem → DQ → DX → Prop
abbrev DR2 := D → D → Mem → DQ → Prop
abbrev DR := List D → Mem → DQ → Prop
abbrev DM := D → List D → Mem → DQ → Prop
structure Sc where
 K : PySem.W.Frag
 cs : List Cn
 c0 : CS
 M0 : Mem
structure Sc.Ok (S : Sc) (c : CS) (M : Mem) : Prop where
 st : Step S.c0 S.M0 c M
 rl : Rel S.K S.cs c M
theorem Sc.Ok.step {S : Sc} {c c' : CS} {M M' : Mem} (h : S.Ok c M) (s : Step c M c' M') (r : Rel S.K S.cs c' M') : S.Ok c' M' := ⟨h.st.trans s, r⟩
def PoE (S : Sc) (c : CS) (M : Mem) (Qd : DQ) (Q : VK) : Prop := ∀ c' M' v d, Step c M c' M' → Rel S.K S.cs c' M' → RpD S.K S.cs c'.F c'.ρ d v → Qd d M' → Q v c'.H
def PoT (S : Sc) (c : CS) (M : Mem) (Qd : Bool → Mem → Prop) (Q : Bool → Hp → Prop) : Prop := ∀ c' M' b, Step c M c' M' → Rel S.K S.cs c' M' → Qd b M' → Q b c'.H
def PoA (S : Sc) (c : CS) (M : Mem) (Qd : List D → Mem → Prop) (Q : List V → Hp → Prop) : Prop := ∀ c' M' vs ds, Step c M c' M' → Rel S.K S.cs c' M' → A2 (RpD S.K S.cs c'.F c'.ρ) ds vs → Qd ds M' → Q vs c'.H
def PoS (S : Sc) (c : CS) (M : Mem) (Qd : DSt → Mem → Prop) (Q : L2.St → Hp → Prop) : Prop := ∀ c' M' σ' ds', Step c M c' M' → Rel S.K S.cs c' M' → RpS S.K S.cs c' ds' σ' → Qd ds' M' → Q σ' c'.H
def PoX (S : Sc) (c : CS) (M : Mem) (Qd : DX) (Q : XK) : Prop := ∀ c' M' cls d e, Step c M c' M' → Rel S.K S.cs c' M' → RpX S.K S.cs c' e cls d → Qd e M' → Q cls d c'.H
theorem PoE.step {S : Sc} {c c1 : CS} {M M1 : Mem} {Qd : DQ} {Q : VK} (h : PoE S c M Qd Q) (s : Step c M c1 M1) : PoE S c1 M1 Qd Q := fun c' M' v d s' => h c' M' v d (s.trans s')
theorem PoT.step {S : Sc} {c c1 : CS} {M M1 : Mem} {Qd : Bool → Mem → Prop} {Q : Bool → Hp → Prop} (h : PoT S c M Qd Q) (s : Step c M c1 M1) : PoT S c1 M1 Qd Q := fun c' M' v s' => h c' M' v (s.trans s')
theorem PoA.step {S : Sc} {c c1 : CS} {M M1 : Mem} {Qd : List D → Mem → Prop} {Q : List V → Hp → Prop} (h : PoA S c M Qd Q) (s : Step c M c1 M1) : PoA S c1 M1 Qd Q := fun c' M' v d s' => h c' M' v d (s.trans s')
theorem PoS.step {S : Sc} {c c1 : CS} {M M1 : Mem} {Qd : DSt → Mem → Prop} {Q : L2.St → Hp → Prop} (h : PoS S c M Qd Q) (s : Step c M c1 M1) : PoS S c1 M1 Qd Q := fun c' M' v d s' => h c' M' v d (s.trans s')
theorem PoX.step {S : Sc} {c c1 : CS} {M M1 : Mem} {Qd : DX} {Q : XK} (h : PoX S c M Qd Q) (s : Step c M c1 M1) : PoX S c1 M1 Qd Q := fun c' M' v d e s' => h c' M' v d e (s.trans s')
structure PoD (S : Sc) (c : CS) (M : Mem) (Dd : Zd8) (D' : Ends) : Prop where
 nx : PoS S c M Dd.nx D'.nx
 rt : PoE S c M Dd.rt D'.rt
 bk : PoS S c M Dd.bk D'.bk
 ct : PoS S c M Dd.ct D'.ct
theorem PoD.step {S : Sc} {c c1 : CS} {M M1 : Mem} {Qd : Zd8} {Q : Ends} (h : PoD S c M Qd Q) (s : Step c M c1 M1) : PoD S c1 M1 Qd Q := ⟨h.nx.step s, h.rt.step s, h.bk.step s, h.ct.step s⟩
abbrev Sc.St (S : Sc) (c : CS) (ds : DSt) (σ : L2.St) : Prop := RpS S.K S.cs c ds σ
abbrev Sc.Vd (S : Sc) (c : CS) (d : D) (v : V) : Prop := RpD S.K S.cs c.F c.ρ d v
abbrev Sc.Ld (S : Sc) (c : CS) (ds : List D) (vs : List V) : Prop := A2 (RpD S.K S.cs c.F c.ρ) ds vs
theorem Sc.Vd.step {S : Sc} {c c' : CS} {M M' : Mem} {d : D} {v : V} (h : S.Vd c d v) (s : Step c M c' M') : S.Vd c' d v := RpD.mono s.same s.pre h
theorem Sc.Ld.step {S : Sc} {c c' : CS} {M M' : Mem} {d : List D} {v : List V} (h : S.Ld c d v) (s : Step c M c' M') : S.Ld c' d v := h.imp fun _ _ r => RpD.mono s.same s.pre r
def SimE (S : Sc) (te : TE) (de : DE) : Prop := ∀ c M σ ds Q Qd, S.Ok c M → S.St c ds σ → de ds M Qd → PoE S c M Qd Q → te σ c.H Q
def SimT (S : Sc) (te : TT) (de : DT) : Prop := ∀ c M σ ds Q Qd, S.Ok c M → S.St c ds σ → de ds M Qd → PoT S c M Qd Q → te σ c.H Q
def SimA (S : Sc) (te : TA) (de : DA) : Prop := ∀ c M σ ds Q Qd, S.Ok c M → S.St c ds σ → de ds M Qd → PoA S c M Qd Q → te σ c.H Q
def SimS (S : Sc) (te : TS) (de : DS) : Prop := ∀ c M σ ds D' Dd, S.Ok c M → S.St c ds σ → de Dd ds M → PoD S c M Dd D' → te D' σ c.H
def SimG (S : Sc) (g : TG) (dg : DG) : Prop := ∀ c M σ ds x v Q Qd, S.Ok c M → S.St c ds σ → S.Vd c x v → dg x ds M Qd → PoS S c M Qd Q → g v σ c.H Q
def Zyp (S : Sc) (g : TGs) (dg : DGs) : Prop := ∀ c M σ ds x v Q Qd, S.Ok c M → S.St c ds σ → S.Ld c x v → dg x ds M Qd → PoS S c M Qd Q → g v σ c.H Q
def SimO (S : Sc) (r : R2) (dr : DR2) : Prop := ∀ c M x y dx dy Q Qd, S.Ok c M → S.Vd c dx x → S.Vd c dy y → dr dx dy M Qd → PoE S c M Qd Q → r x y c.H Q
def SimU (S : Sc) (r : V → Hp → VK → Prop) (dr : D → Mem → DQ → Prop) : Prop := ∀ c M x dx Q Qd, S.Ok c M → S.Vd c dx x → dr dx M Qd → PoE S c M Qd Q → r x c.H Q
def SimR (S : Sc) (r : List V → Hp → VK → Prop) (dr : DR) : Prop := ∀ c M vs ds Q Qd, S.Ok c M → S.Ld c ds vs → dr ds M Qd → PoE S c M Qd Q → r vs c.H Q
def SimM (S : Sc) (r : V → List V → Hp → VK → Prop) (dr : DM) : Prop := ∀ c M x dx vs ds Q Qd, S.Ok c M → S.Vd c dx x → S.Ld c ds vs → dr dx ds M Qd → PoE S c M Qd Q → r x vs c.H Q
def SimP (S : Sc) (t : TO) (d : DO) : Prop := ∀ c M σ ds Q Qd, S.Ok c M → S.St c ds σ → d ds M Qd → (∀ c' M' o, Step c M c' M' → Rel S.K S.cs c' M' → Qd o M' → Q o c'.H) → t σ c.H Q
def SimL (S : Sc) (r : V → Option Int → Option Int → Hp → VK → Prop) (dr : D → Option Int → Option Int → Mem → DQ → Prop) : Prop := ∀ c M x dx lo hi Q Qd, S.Ok c M → S.Vd c dx x → dr dx lo hi M Qd → PoE S c M Qd Q → r x lo hi c.H Q
def Wk (S : Sc) (c : CS) (J : It) (xs : List D) : Prop := ∀ (i : Nat) c' M', Same c.F c'.F → c.ρ <+: c'.ρ → Rel S.K S.cs c' M' → (xs.length = i → J.stop i c'.H) ∧ ∀ d, xs[i]? = some d → J.go i c'.H ∧ ∀ x H', J.yld i c'.H x H' → ∃ c'', c''.H = H' ∧ Step c' M' c'' M' ∧ Rel S.K S.cs c'' M' ∧ S.Vd c'' d x
def SimI (S : Sc) (t : TI) (d : DI) : Prop := ∀ c M σ ds R Rd, S.Ok c M → S.St c ds σ → d ds M Rd → (∀ c' M' J xs, Step c M c' M' → Rel S.K S.cs c' M' → Wk S c' J xs → Rd xs M' → R J c'.H) → t σ c.H R
def dVar (i : Nat) : DE := fun ds M Q => ∃ d, ds[i]? = some (some d) ∧ Q d M
def dC (x : PV) : DE := fun _ M Q => Q (.v x) M
def dOp (r : DR2) (a b : DE) : DE := fun ds M Q => a ds M fun x M1 => b ds M1 fun y M2 => r x y M2 Q
def dUn (r : D → Mem → DQ → Prop) (a : DE) : DE := fun ds M Q => a ds M fun x M1 => r x M1 Q
def dNil : DA := fun _ M Q => Q [] M
def Zaa (a : DE) (r : DA) : DA := fun ds M Q => a ds M fun x M1 => r ds M1 fun xs M2 => Q (x :: xs) M2
def dCB (r : DR) (a : DA) : DE := fun ds M Q => a ds M fun xs M1 => r xs M1 Q
def Zah (a : DE) : DT := fun ds M Q => a ds M fun x M1 => ∃ k, x = .v (.bl k) ∧ Q k M1
def dNot (t : DT) : DT := fun ds M Q => t ds M fun b M1 => Q (!b) M1
def dAnd (t u : DT) : DT := fun ds M Q => t ds M fun b M1 => if b = true then u ds M1 Q else Q false M1
def dOr (t u : DT) : DT := fun ds M Q => t ds M fun b M1 => if b = true then Q true M1 else u ds M1 Q
def Zos (a b : DE) : DE := fun ds M Q => a ds M fun x M1 => ∃ k, x = .v (.bl k) ∧ if k = true then b ds M1 Q else Q (.v (.bl false)) M1
def dOrV (a b : DE) : DE := fun ds M Q => a ds M fun x M1 => ∃ k, x = .v (.bl k) ∧ if k = true then Q (.v (.bl true)) M1 else b ds M1 Q
def Z6m (a : DE) : DE := fun ds M Q => a ds M fun x M1 => ∃ k, x = .v (.bl k) ∧ Q (.v (.bl (!k))) M1
def dIf (t : DT) (a b : DE) : DE := fun ds M Q => t ds M fun k M1 => if k = true then a ds M1 Q else b ds M1 Q
def Zam : DS := fun E ds M => E.nx ds M
def dSeq (t u : DS) : DS := fun E ds M => ∃ N : DSt → Mem → Prop, t { E with nx := N } ds M ∧ ∀ ds' M', N ds' M' → u E ds' M'
def dCut (t u : DS) : DS := dSeq t u
def Zeh (a : DE) : DS := fun E ds M => a ds M fun _ M1 => E.nx ds M1
def dRet (a : DE) : DS := fun E ds M => a ds M E.rt
def Z9b : DS := fun E _ M => E.rt (.v .non) M
def dIfS (t : DT) (a b : DS) : DS := fun E ds M => t ds M fun k M1 => if k = true then a E ds M1 else b E ds M1
def dAsg (a : DE) (g : DG) : DS := fun E ds M => a ds M fun x M1 => g x ds M1 E.nx
def hName (i : Nat) : DG := fun x ds M Q => Q (ds.set i (some x)) M
def hNil : DGs := fun xs ds M Q => xs = [] ∧ Q ds M
def Z6a (g : DG) (r : DGs) : DGs := fun xs ds M Q => ∃ x ys, xs = x :: ys ∧ g x ds M fun ds' M' => r ys ds' M' Q
def hTup (n : Nat) (r : DGs) : DG := fun x ds M Q => ∃ ys, x = .v (.tup ys) ∧ ys.length = n ∧ r (ys.map D.v) ds M Q
def Za2 : DO := fun _ M Q => Q none M
def Zcw (a : DE) : DO := fun ds M Q => a ds M fun x M1 => ∃ i, x = .v (.int i) ∧ Q (some i) M1
def dSl (r : D → Option Int → Option Int → Mem → DQ → Prop) (a : DE) (l h : DO) : DE := fun ds M Q => a ds M fun x M1 => l ds M1 fun lo M2 => h ds M2 fun hi M3 => r x lo hi M3 Q
section
variable {S : Sc}
variable {te ta tb : TE} {da db de : DE} {tt tu : TT} {dt du : DT} {tr : TA} {dr : DA} {ts us : TS} {dss dus : DS}
theorem Zaf {i : Nat} : SimE S (tVar i) (dVar i) := fun c M σ ds Q Qd ok rs ⟨d, e, q⟩ po => let ⟨v, h1, h2⟩ := rs.2 i d e; ⟨v, h1, po c M v d (Step.refl _ _) ok.rl h2 q⟩
theorem Zjq {v : V} {x : PV} (h : ∀ F, Rp S.K S.cs F x v) : SimE S (tC v) (dC x) := fun c M σ ds Q Qd ok rs q po => po c M v (.v x) (Step.refl _ _) ok.rl (h c.F) q
theorem Zh7 {r : R2} {d : DR2} (hr : SimO S r d) (ha : SimE S ta da) (hb : SimE S tb db) : SimE S (tOp r ta tb) (dOp d da db) := fun c M σ ds Q Qd ok rs q po =>
 ha c M σ ds _ _ ok rs q fun c1 M1 v1 d1 s1 r1 p1 q1 => hb c1 M1 σ ds _ _ (ok.step s1 r1) (rs.step s1) q1 fun c2 M2 v2 d2 s2 r2 p2 q2 =>
  hr c2 M2 v1 v2 d1 d2 _ _ ((ok.step s1 r1).step s2 r2) (Sc.Vd.step p1 s2) p2 q2 (po.step (s1.trans s2))
theorem Ztp {r : V → Hp → VK → Prop} {d : D → Mem → DQ → Prop} (hr : SimU S r d) (ha : SimE S ta da) : SimE S (tUn r ta) (dUn d da) := fun c M σ ds Q Qd ok rs q po =>
 ha c M σ ds _ _ ok rs q fun c1 M1 v1 d1 s1 r1 p1 q1 => hr c1 M1 v1 d1 _ _ (ok.step s1 r1) p1 q1 (po.step s1)
theorem Zlf : SimA S tNil dNil := fun c M σ ds Q Qd ok rs q po => po c M [] [] (Step.refl _ _) ok.rl .nil q
theorem Zhj (ha : SimE S ta da) (hr : SimA S tr dr) : SimA S (tCons ta tr) (Zaa da dr) := fun c M σ ds Q Qd ok rs q po =>
 ha c M σ ds _ _ ok rs q fun c1 M1 v1 d1 s1 r1 p1 q1 => hr c1 M1 σ ds _ _ (ok.step s1 r1) (rs.step s1) q1 fun c2 M2 v2 d2 s2 r2 p2 q2 =>
  po c2 M2 _ _ (s1.trans s2) r2 (.cons (Sc.Vd.step p1 s2) p2) q2
theorem Zty {r : List V → Hp → VK → Prop} {d : DR} (hr : SimR S r d) (ha : SimA S tr dr) : SimE S (tCB r tr) (dCB d dr) := fun c M σ ds Q Qd ok rs q po =>
 ha c M σ ds _ _ ok rs q fun c1 M1 v1 d1 s1 r1 p1 q1 => hr c1 M1 v1 d1 _ _ (ok.step s1 r1) p1 q1 (po.step s1)
theorem Ze9 (ha : SimE S ta da) : SimT S (tTest ta) (Zah da) := fun c M σ ds Q Qd ok rs q po =>
 ha c M σ ds _ _ ok rs q fun c1 M1 v1 d1 s1 r1 p1 ⟨k, e, q1⟩ => by
  subst e
  cases (show v1 = .bl k from p1)
  exact ⟨k, rfl, po c1 M1 k s1 r1 q1⟩
theorem Zh8 (ha : SimT S tt dt) : SimT S (tNot tt) (dNot dt) := fun c M σ ds Q Qd ok rs q po =>
 ha c M σ ds _ _ ok rs q fun c1 M1 b s1 r1 q1 => po c1 M1 _ s1 r1 q1
theorem Zpj (ha : SimT S tt dt) (hb : SimT S tu du) : SimT S (tAnd tt tu) (dAnd dt du) := fun c M σ ds Q Qd ok rs q po =>
 ha c M σ ds _ _ ok rs q fun c1 M1 b s1 r1 q1 => by
  cases b with
  | true => exact hb c1 M1 σ ds _ _ (ok.step s1 r1) (rs.step s1) q1 (po.step s1)
  | false => exact po c1 M1 false s1 r1 q1
theorem Znk (ha : SimT S tt dt) (hb : SimT S tu du) : SimT S (tOr tt tu) (dOr dt du) := fun c M σ ds Q Qd ok rs q po =>
 ha c M σ ds _ _ ok rs q fun c1 M1 b s1 r1 q1 => by
  cases b with
  | true => exact po c1 M1 true s1 r1 q1
  | false => exact hb c1 M1 σ ds _ _ (ok.step s1 r1) (rs.step s1) q1 (po.step s1)
theorem Zln (ha : SimE S ta da) (hb : SimE S tb db) : SimE S (tAndV ta tb) (Zos da db) := fun c M σ ds Q Qd ok rs q po =>
 ha c M σ ds _ _ ok rs q fun c1 M1 v1 d1 s1 r1 p1 ⟨k, e, q1⟩ => by
  subst e
  cases (show v1 = .bl k from p1)
  refine ⟨k, rfl, ?_⟩
  cases k with
  | true => exact hb c1 M1 σ ds _ _ (ok.step s1 r1) (rs.step s1) q1 (po.step s1)
  | false => exact po c1 M1 _ (.v (.bl false)) s1 r1 rfl q1
theorem Z09 (ha : SimE S ta da) (hb : SimE S tb db) : SimE S (tOrV ta tb) (dOrV da db) := fun c M σ ds Q Qd ok rs q po =>
 ha c M σ ds _ _ ok rs q fun c1 M1 v1 d1 s1 r1 p1 ⟨k, e, q1⟩ => by
  subst e
  cases (show v1 = .bl k from p1)
  refine ⟨k, rfl, ?_⟩
  cases k with
  | true => exact po c1 M1 _ (.v (.bl true)) s1 r1 rfl q1
  | false => exact hb c1 M1 σ ds _ _ (ok.step s1 r1) (rs.step s1) q1 (po.step s1)
theorem Zw5 (ha : SimE S ta da) : SimE S (tNotV ta) (Z6m da) := fun c M σ ds Q Qd ok rs q po =>
 ha c M σ ds _ _ ok rs q fun c1 M1 v1 d1 s1 r1 p1 ⟨k, e, q1⟩ => by
  subst e
  cases (show v1 = .bl k from p1)
  exact ⟨k, rfl, po c1 M1 _ (.v (.bl (!k))) s1 r1 rfl q1⟩
theorem Ztv (hc : SimT S tt dt) (ha : SimE S ta da) (hb : SimE S tb db) : SimE S (tIf tt ta tb) (dIf dt da db) := fun c M σ ds Q Qd ok rs q po =>
 hc c M σ ds _ _ ok rs q fun c1 M1 b s1 r1 q1 => by
  cases b with
  | true => exact ha c1 M1 σ ds _ _ (ok.step s1 r1) (rs.step s1) q1 (po.step s1)
  | false => exact hb c1 M1 σ ds _ _ (ok.step s1 r1) (rs.step s1) q1 (po.step s1)
theorem Zcz : SimS S tNext Zam := fun c M σ ds E Ed ok rs q po => po.nx c M σ ds (Step.refl _ _) ok.rl rs q
theorem Zan (ha : SimS S ts dss) (hb : SimS S us dus) : SimS S (tSeq ts us) (dSeq dss dus) := fun c M σ ds E Ed ok rs ⟨N, q, k⟩ po =>
 ha c M σ ds _ _ ok rs q ⟨fun c1 M1 σ1 ds1 s1 r1 p1 q1 => hb c1 M1 σ1 ds1 _ _ (ok.step s1 r1) p1 (k _ _ q1) (po.step s1), po.rt, po.bk, po.ct⟩
theorem Zll (ha : SimS S ts dss) (hb : SimS S us dus) : SimS S (tSeq ts us) (dCut dss dus) := Zan ha hb
theorem Zbx (ha : SimE S ta da) : SimS S (tDrop ta) (Zeh da) := fun c M σ ds E Ed ok rs q po =>
 ha c M σ ds _ _ ok rs q fun c1 M1 v1 d1 s1 r1 p1 q1 => po.nx c1 M1 σ ds s1 r1 (rs.step s1) q1
theorem Zf2 (ha : SimE S ta da) : SimS S (tRet ta) (dRet da) := fun c M σ ds E Ed ok rs q po => ha c M σ ds _ _ ok rs q po.rt
theorem Zw4 : SimS S tRetN Z9b := fun c M σ ds E Ed ok rs q po => po.rt c M _ (.v .non) (Step.refl _ _) ok.rl rfl q
theorem Zdk (hc : SimT S tt dt) (ha : SimS S ts dss) (hb : SimS S us dus) : SimS S (tIfS tt ts us) (dIfS dt dss dus) := fun c M σ ds E Ed ok rs q po =>
 hc c M σ ds _ _ ok rs q fun c1 M1 b s1 r1 q1 => by
  cases b with
  | true => exact ha c1 M1 σ ds _ _ (ok.step s1 r1) (rs.step s1) q1 (po.step s1)
  | false => exact hb c1 M1 σ ds _ _ (ok.step s1 r1) (rs.step s1) q1 (po.step s1)
theorem Zlm {g : TG} {dg : DG} (ha : SimE S ta da) (hg : SimG S g dg) : SimS S (tAsg ta g) (dAsg da dg) := fun c M σ ds E Ed ok rs q po =>
 ha c M σ ds _ _ ok rs q fun c1 M1 v1 d1 s1 r1 p1 q1 => hg c1 M1 σ ds d1 v1 _ _ (ok.step s1 r1) (rs.step s1) p1 q1 (po.nx.step s1)
theorem Zfa {i : Nat} : SimG S (gName i) (hName i) := fun c M σ ds x v Q Qd ok rs rv q po => po c M _ _ (Step.refl _ _) ok.rl (rs.set rv) q
theorem Zw7 : Zyp S gNil hNil := fun c M σ ds x v Q Qd ok rs rv ⟨e, q⟩ po => by
 subst e
 cases rv
 exact ⟨rfl, po c M _ _ (Step.refl _ _) ok.rl rs q⟩
theorem Ztw {g : TG} {dg : DG} {gs : TGs} {dgs : DGs} (hg : SimG S g dg) (hs : Zyp S gs dgs) : Zyp S (gCons g gs) (Z6a dg dgs) := fun c M σ ds x v Q Qd ok rs rv ⟨y, ys, e, q⟩ po => by
 subst e
 cases rv with
 | cons r1 r2 => exact ⟨_, _, rfl, hg c M σ ds _ _ _ _ ok rs r1 q fun c1 M1 σ1 ds1 s1 r1 p1 q1 => hs c1 M1 σ1 ds1 _ _ _ _ (ok.step s1 r1) p1 (Sc.Ld.step r2 s1) q1 (po.step s1)⟩
theorem Zw6 {n : Nat} {gs : TGs} {dgs : DGs} (hs : Zyp S gs dgs) : SimG S (gTup S.K n gs) (hTup n dgs) := fun c M σ ds x v Q Qd ok rs rv ⟨ys, e, hl, q⟩ po => by
 subst e
 obtain ⟨a, vs, e, h1, h2⟩ := rv
 exact ⟨a, vs, e, Same.seqT ok.rl.same h1, by rw [← h2.len]; exact hl, hs c M σ ds _ _ _ _ ok rs (RpL.ds h2) q po⟩
theorem Zf3 : SimP S tNoPart Za2 := fun c M σ ds Q Qd ok rs q po => po c M none (Step.refl _ _) ok.rl q
theorem Zle (ha : SimE S ta da) : SimP S (tPart ta) (Zcw da) := fun c M σ ds Q Qd ok rs q po =>
 ha c M σ ds _ _ ok rs q fun c1 M1 v1 d1 s1 r1 p1 ⟨i, e, q1⟩ => by
  subst e
  exact ⟨i, p1, po c1 M1 _ s1 r1 q1⟩
theorem Ztq {r : V → Option Int → Option Int → Hp → VK → Prop} {d : D → Option Int → Option Int → Mem → DQ → Prop} {tl th : TO} {dl dh : DO} (hr : SimL S r d) (ha : SimE S ta da) (hl : SimP S tl dl) (hh : SimP S th dh) : SimE S (tSl r ta tl th) (dSl d da dl dh) := fun c M σ ds Q Qd ok rs q po =>
 ha c M σ ds _ _ ok rs q fun c1 M1 v1 d1 s1 r1 p1 q1 => hl c1 M1 σ ds _ _ (ok.step s1 r1) (rs.step s1) q1 fun c2 M2 o2 s2 r2 q2 => hh c2 M2 σ ds _ _ ((ok.step s1 r1).step s2 r2) ((rs.step s1).step s2) q2 fun c3 M3 o3 s3 r3 q3 =>
  hr c3 M3 v1 d1 _ _ _ _ (((ok.step s1 r1).step s2 r2).step s3 r3) (Sc.Vd.step (Sc.Vd.step p1 s2) s3) q3 (po.step ((s1.trans s2).trans s3))
def Zeg (g : DG) (b : DS) (E : Zd8) : List D → DSt → Mem → Prop
 | [], ds, M => E.nx ds M
 | x :: xs, ds, M => g x ds M fun ds2 M2 => b { E with nx := Zeg g b E xs, ct := Zeg g b E xs, bk := E.nx } ds2 M2
def dFor (it : DI) (g : DG) (b : DS) : DS := fun E ds M => it ds M fun xs M1 => Zeg g b E xs ds M1
theorem Zia {ti : TI} {di : DI} {g : TG} {dg : DG} (hi : SimI S ti di) (hg : SimG S g dg) (hb : SimS S ts dss) : SimS S (tFor ti g ts) (dFor di dg dss) := fun c M σ ds E Ed ok rs q po =>
 hi c M σ ds _ _ ok rs q fun c1 M1 J xs s1 r1 wk q1 => by
  refine ⟨fun i m σ' H' => ∃ c2 M2 ds2, c2.H = H' ∧ m = xs.length - i ∧ i ≤ xs.length ∧ Step c1 M1 c2 M2 ∧ Rel S.K S.cs c2 M2 ∧ S.St c2 ds2 σ' ∧ Zeg dg dss Ed (xs.drop i) ds2 M2, ⟨xs.length, c1, M1, ds, rfl, rfl, Q4 _, Step.refl _ _, r1, rs.step s1, q1⟩, ?_⟩
  rintro i m σ' H' ⟨c2, M2, ds2, rfl, rfl, hi, s2, r2, p2, q2⟩
  obtain ⟨w1, w2⟩ := wk i c2 M2 s2.same s2.pre r2
  by_cases hlt : i < xs.length
  ·obtain ⟨g1, g2⟩ := w2 xs[i] (by simp [hlt])
   rw [Qu hlt] at q2
   refine Or.inr ⟨g1, fun σ'' H'' => ∃ c3 M3 ds3, c3.H = H'' ∧ Step c1 M1 c3 M3 ∧ Rel S.K S.cs c3 M3 ∧ S.St c3 ds3 σ'' ∧ Zeg dg dss Ed (xs.drop (i + 1)) ds3 M3, fun σ'' H'' ⟨c3, M3, ds3, e, s3, r3, p3, q3⟩ => ⟨xs.length - (i + 1), by omega, c3, M3, ds3, e, rfl, hlt, s3, r3, p3, q3⟩, fun x H'' hy => ?_⟩
   obtain ⟨c3, rfl, s3, r3, p3⟩ := g2 x H'' hy
   have ok2 := (ok.step s1 r1).step s2 r2
   refine hg c3 M2 σ' ds2 _ _ _ _ (ok2.step s3 r3) (p2.step s3) p3 q2 fun c4 M4 σ4 ds4 s4 r4 p4 q4 => ?_
   have st : Step c1 M1 c4 M4 := s2.trans (s3.trans s4)
   have ps : PoS S c4 M4 (Zeg dg dss Ed (xs.drop (i + 1))) (fun σ'' H'' => ∃ c3 M3 ds3, c3.H = H'' ∧ Step c1 M1 c3 M3 ∧ Rel S.K S.cs c3 M3 ∧ S.St c3 ds3 σ'' ∧ Zeg dg dss Ed (xs.drop (i + 1)) ds3 M3) := fun c5 M5 σ5 ds5 s5 r5 p5 q5 => ⟨c5, M5, ds5, rfl, st.trans s5, r5, p5, q5⟩
   have po4 := po.step (s1.trans st)
   exact hb c4 M4 σ4 ds4 _ _ ((ok2.step s3 r3).step s4 r4) p4 q4 ⟨ps, po4.rt, po4.nx, ps⟩
  ·have e : xs.length = i := by omega
   rw [← e, Ht] at q2
   exact Or.inl ⟨w1 e, po.nx c2 M2 σ' ds2 (s1.trans s2) r2 p2 q2⟩
def dWhN (t : DT) (b : DS) (E : Zd8) : Nat → DSt → Mem → Prop
 | 0, _, _ => False
 | n + 1, ds, M => t ds M fun k M1 => if k = true then b { E with nx := dWhN t b E n, ct := dWhN t b E n, bk := E.nx } ds M1 else E.nx ds M1
def Z6k (t : DT) (b : DS) : DS := fun E ds M => ∃ n, dWhN t b E n ds M
theorem Zto (hc : SimT S tt dt) (hb : SimS S ts dss) : SimS S (tWhile tt ts) (Z6k dt dss) := fun c M σ ds E Ed ok rs ⟨n, q⟩ po => by
 refine ⟨fun m σ' H' => ∃ c2 M2 ds2, c2.H = H' ∧ Step c M c2 M2 ∧ Rel S.K S.cs c2 M2 ∧ S.St c2 ds2 σ' ∧ dWhN dt dss Ed m ds2 M2, ⟨n, c, M, ds, rfl, Step.refl _ _, ok.rl, rs, q⟩, ?_⟩
 rintro m σ' H' ⟨c2, M2, ds2, rfl, s2, r2, p2, q2⟩
 cases m with
 | zero => exact (show False from q2).elim
 | succ m =>
  refine hc c2 M2 σ' ds2 _ _ (ok.step s2 r2) p2 q2 fun c3 M3 k s3 r3 q3 => ?_
  cases k with
  | true =>
   have st := s2.trans s3
   refine ⟨fun σ'' H'' => ∃ c4 M4 ds4, c4.H = H'' ∧ Step c M c4 M4 ∧ Rel S.K S.cs c4 M4 ∧ S.St c4 ds4 σ'' ∧ dWhN dt dss Ed m ds4 M4, fun σ'' H'' ⟨c4, M4, ds4, e, s4, r4, p4, q4⟩ => ⟨m, by omega, c4, M4, ds4, e, s4, r4, p4, q4⟩, ?_⟩
   have ps : PoS S c3 M3 (dWhN dt dss Ed m) (fun σ'' H'' => ∃ c4 M4 ds4, c4.H = H'' ∧ Step c M c4 M4 ∧ Rel S.K S.cs c4 M4 ∧ S.St c4 ds4 σ'' ∧ dWhN dt dss Ed m ds4 M4) := fun c5 M5 σ5 ds5 s5 r5 p5 q5 => ⟨c5, M5, ds5, rfl, st.trans s5, r5, p5, q5⟩
   have po4 := po.step st
   exact hb c3 M3 σ' ds2 _ _ (ok.step st r3) (p2.step s3) q3 ⟨ps, po4.rt, po4.nx, ps⟩
  | false => exact po.nx c3 M3 σ' ds2 (s2.trans s3) r3 (p2.step s3) q3
def jStr (a : DE) : DI := fun ds M R => a ds M fun x M1 => ∃ z, x = .v (.str z) ∧ R (z.map fun c => D.v (.str [c])) M1
def jLst (a : DE) : DI := fun ds M R => a ds M fun x M1 => ∃ xs, x = .v (.lst xs) ∧ R (xs.map D.v) M1
def jTup (a : DE) : DI := fun ds M R => a ds M fun x M1 => ∃ xs, x = .v (.tup xs) ∧ R (xs.map D.v) M1
def Zof (a : DA) : DI := fun ds M R => a ds M fun xs M1 => ∃ j : Int, xs = [.v (.int j)] ∧ -(2 ^ 62) ≤ j ∧ j < 2 ^ 62 ∧ R ((List.range j.toNat).map fun (k : Nat) => D.v (.int k)) M1
def Z82 (a : DA) : DI := fun ds M R => a ds M fun xs M1 => ∃ i j : Int, xs = [.v (.int i), .v (.int j)] ∧ (-(2 ^ 62) ≤ i ∧ i < 2 ^ 62 ∧ -(2 ^ 62) ≤ j ∧ j < 2 ^ 62) ∧ R ((List.range (j - i).toNat).map fun (k : Nat) => D.v (.int (i + k))) M1
theorem Zhu {c : CS} {J : It} {n : Nat} {G : Hp → Prop} {Y : Nat → Hp → V → Hp → Prop} (w : Walk J n G Y) {xs : List D} (hn : n = xs.length) (hG : ∀ c' : CS, Same c.F c'.F → Same c'.F c'.H → G c'.H) (hy : ∀ i d x H H', xs[i]? = some d → Y i H x H' → H' = H ∧ S.Vd c d x) : Wk S c J xs := by
 intro i c' M' s p r
 subst hn
 have g := hG c' s r.same
 refine ⟨fun e => by subst e; exact w.stops _ g, fun d e => ?_⟩
 have hi := (Qa.mp e).1
 refine ⟨w.goes i _ hi g, fun x H' y => ?_⟩
 obtain ⟨e1, e2⟩ := hy i d x _ _ e (w.yields i _ x H' hi g y)
 exact ⟨c', e1.symm, Step.refl _ _, r, RpD.mono s p e2⟩
theorem Zli (ha : SimE S ta da) : SimI S (iStr ta) (jStr da) := fun c M σ ds R Rd ok rs q po =>
 ha c M σ ds _ _ ok rs q fun c1 M1 v1 d1 s1 r1 p1 ⟨z, e, q1⟩ => by
  subst e
  cases (show v1 = sv z from p1)
  refine ⟨_, rfl, po c1 M1 _ _ s1 r1 (Zhu walk_str (by simp) (fun _ _ _ => trivial) fun i d x H H' hd hy => ?_) q1⟩
  obtain ⟨e, c, hc, rfl⟩ := hy
  refine ⟨e, ?_⟩
  rw [Ql] at hd
  have hzc : z[i]? = some c := by simpa using hc
  rw [hzc] at hd
  cases hd
  rfl
theorem Zlj (ha : SimE S ta da) : SimI S (iList S.K ta) (jLst da) := fun c M σ ds R Rd ok rs q po =>
 ha c M σ ds _ _ ok rs q fun c1 M1 v1 d1 s1 r1 p1 ⟨z, e, q1⟩ => by
  subst e
  obtain ⟨a, vs, rfl, h1, h2⟩ := p1
  refine ⟨a, rfl, ⟨vs, Zen (r1.same _ _ h1)⟩, po c1 M1 _ _ s1 r1 (Zhu walk_list (xs := z.map D.v) (by rw [Qb, h2.len]) (fun c' s1 s2 => Zen (s2 _ _ (s1 _ _ h1))) fun i d x H H' hd hy => ?_) q1⟩
  obtain ⟨e, hx⟩ := hy
  refine ⟨e, ?_⟩
  obtain ⟨v, e1, e2⟩ := (RpL.ds h2).get hd
  rw [hx] at e1
  cases e1
  exact e2
theorem Zhi (ha : SimE S ta da) : SimI S (iTup S.K ta) (jTup da) := fun c M σ ds R Rd ok rs q po =>
 ha c M σ ds _ _ ok rs q fun c1 M1 v1 d1 s1 r1 p1 ⟨z, e, q1⟩ => by
  subst e
  obtain ⟨a, vs, rfl, h1, h2⟩ := p1
  refine ⟨a, rfl, ⟨vs, Same.seqT r1.same h1⟩, po c1 M1 _ _ s1 r1 (Zhu walk_tup (xs := z.map D.v) (by rw [Qb, h2.len]) (fun c' s1 s2 => Same.seqT s2 (Same.seqT s1 h1)) fun i d x H H' hd hy => ?_) q1⟩
  obtain ⟨e, hx⟩ := hy
  refine ⟨e, ?_⟩
  obtain ⟨v, e1, e2⟩ := (RpL.ds h2).get hd
  rw [hx] at e1
  cases e1
  exact e2
theorem Zls {n i : Nat} {f : Nat → D} {d : D} (h : ((List.range n).map f)[i]? = some d) : d = f i := by
 rw [Ql] at h
 cases q : (List.range n)[i]? with
 | none => rw [q] at h; cases h
 | some k =>
  rw [q] at h
  cases h
  have := Qa.mp q
  obtain ⟨h1, h2⟩ := this
  rw [List.getElem_range] at h2
  rw [h2]
theorem Zh9 (ha : SimA S tr dr) : SimI S (iRng1 tr) (Zof dr) := fun c M σ ds R Rd ok rs q po =>
 ha c M σ ds _ _ ok rs q fun c1 M1 v1 d1 s1 r1 p1 ⟨j, e, h1, h2, q1⟩ => by
  subst e
  obtain ⟨v, rfl, e⟩ : ∃ v, v1 = [v] ∧ v = V.int j := by
   cases p1 with
   | cons r t => cases t; exact ⟨_, rfl, r⟩
  subst e
  refine ⟨j, rfl, h1, h2, po c1 M1 _ _ s1 r1 (Zhu walk_range (by simp) (fun _ _ _ => trivial) fun i d x H H' hd hy => ?_) q1⟩
  obtain ⟨e, rfl⟩ := hy
  refine ⟨e, ?_⟩
  rw [Zls hd]
  show V.int (0 + i) = V.int i
  rw [Int.zero_add]
theorem Ztu (ha : SimA S tr dr) : SimI S (iRng2 tr) (Z82 dr) := fun c M σ ds R Rd ok rs q po =>
 ha c M σ ds _ _ ok rs q fun c1 M1 v1 d1 s1 r1 p1 ⟨i, j, e, h1, q1⟩ => by
  subst e
  obtain rfl : v1 = [V.int i, V.int j] := by
   cases p1 with
   | cons r t =>
    cases t with
    | cons r' t =>
     cases t
     rw [show _ = V.int i from r, show _ = V.int j from r']
  refine ⟨i, j, rfl, h1, po c1 M1 _ _ s1 r1 (Zhu walk_range (by simp) (fun _ _ _ => trivial) fun i d x H H' hd hy => ?_) q1⟩
  obtain ⟨e, rfl⟩ := hy
  refine ⟨e, ?_⟩
  rw [Zls hd]
  rfl
end
end Cl
namespace Cl
open PySem PySem.Spec PyProof.Rows L2 He ClX
mutual
def nkD : PyData → NestedKey
 | .none => .none
 | .bool b => .num (if b = true then 1 else 0)
 | .int i => .num i
 | .str x => .text x
 | .tuple ds => .tup (nkDs ds)
 | .list _ => .none
 | .dict _ => .none
def nkDs : List PyData → List NestedKey
 | [] => []
 | d :: ds => nkD d :: nkDs ds
end
mutual
def isKD : PyData → Bool
 | .none => true
 | .bool _ => true
 | .int _ => true
 | .str _ => true
 | .tuple ds => Zx4 ds
 | .list _ => false
 | .dict _ => false
def Zx4 : List PyData → Bool
 | [] => true
 | d :: ds => isKD d && Zx4 ds
end
section
variable {X : Cx} {pins : List (Addr × Obj)} {σ : L2.St} {H : Hp} {s : Shared}
mutual
theorem Dp.nest (I : Inv X pins σ H s) : ∀ (d : PyData) (v : V) (u : Value), Dp X.K H v d → isKD d = true → RelV v u → NestedIs s.heap (nkD d) u
 | .none, _, _, h, _, r => by cases h; cases r; exact .none
 | .bool b, _, _, h, _, r => by cases h; cases r; exact .bool rfl
 | .int i, _, _, h, _, r => by cases h; obtain ⟨t, rfl⟩ := r; exact .int _ _
 | .str x, _, _, h, _, r => by cases h; obtain ⟨t, rfl⟩ := r; exact .text _ _
 | .list ds, _, _, _, k, _ => by cases k
 | .tuple ds, _, _, h, k, r => by
  cases h with
  | tup hs ha =>
   cases r
   obtain ⟨its, rv, ⟨o, ho, hc, n, hd⟩, _⟩ := I.tuple hs
   exact .tup ho hc hd (by simpa using Dp.Zul I ds _ its ha k rv)
 | .dict _, _, _, h, _, _ => by cases h
theorem Dp.Zul (I : Inv X pins σ H s) : ∀ (ds : List PyData) (vs : List V) (us : List Value), DpAll X.K H vs ds → Zx4 ds = true → Vals vs us → NestedAll s.heap (nkDs ds) us
 | [], _, _, h, _, r => by cases h; cases r; exact .nil
 | d :: ds, _, _, h, k, r => by
  have k' : (isKD d && Zx4 ds) = true := k
  rw [H6] at k'
  cases h with
  | cons h1 h2 =>
   cases r with
   | cons r1 r2 => exact .cons (Dp.nest I d _ _ h1 k'.1 r1) (Dp.Zul I ds _ _ h2 k'.2 r2)
end
end
def NKey (K : PySem.W.Frag) (H : Hp) (d : PyData) (p : Addr) : Prop := Dp K H (.ref p) d ∧ isKD d = true ∧ (nkD d).depth ≤ 8
structure Z6z (w : World) (K : PySem.W.Frag) (H : Hp) (a : Addr) (ks : List PyData) (ys : List (Int × Addr × V)) : Prop where
 at_ : H a = some (.ext (DnO a ys))
 sys : (a == sysModules) = false
 len : ys.length ≤ sizeLine
 nd : (ks.map nkD).Nodup
 rel : A2 (fun k (y : Int × Addr × V) => y.1 = (nkD k).hash w ∧ NKey K H k y.2.1) ks ys
section
variable {X : Cx} {pins : List (Addr × Obj)} {σ : L2.St} {H : Hp} {s : Shared} {a p : Addr} {d : PyData} {ks : List PyData} {ys : List (Int × Addr × V)} {A : Around} {E : Value → Shared → Prop}
theorem NKey.is (I : Inv X pins σ H s) (h : NKey X.K H d p) : (nestedKind X.prog X.w).is s.heap (nkD d) p := ⟨Dp.nest I d _ _ h.1 h.2.1 rfl, h.2.2⟩
abbrev XRel (k : PyData) (y : Int × Addr × V) (x : NestedKey × Addr × Value) : Prop := x.1 = nkD k ∧ x.2.1 = y.2.1 ∧ RelV y.2.2 x.2.2
theorem Z6z.dict (I : Inv X pins σ H s) (h : Z6z X.w X.K H a ks ys) : ∃ xs : List (NestedKey × Addr × Value), s.heap.DictOfH (nestedKind X.prog X.w) a xs ∧ xs.length = ys.length ∧ xs.map (·.1) = ks.map nkD ∧ ∀ (i : Nat) (k : PyData) (y : Int × Addr × V), ks[i]? = some k → ys[i]? = some y → ∃ x, xs[i]? = some x ∧ XRel k y x := by
 have ob := I.hok a _ h.at_
 obtain ⟨⟨o, ep, ens, h1, h2, h3, h4⟩, _, _⟩ := ob
 have key : ∀ (ks : List PyData) (ys : List (Int × Addr × V)) (es : List DictEntry), A2 (fun k (y : Int × Addr × V) => y.1 = (nkD k).hash X.w ∧ NKey X.K H k y.2.1) ks ys → A2 (fun (y : Int × Addr × V) (en : DictEntry) => en.hash = y.1 ∧ en.key = .ref y.2.1 ∧ RelV y.2.2 en.val) ys es →
   ∃ xs : List (NestedKey × Addr × Value), es = xs.map (entryOfKey (nestedKind X.prog X.w)) ∧ (∀ x ∈ xs, (nestedKind X.prog X.w).is s.heap x.1 x.2.1) ∧ xs.length = ys.length ∧ xs.map (·.1) = ks.map nkD ∧ ∀ (i : Nat) (k : PyData) (y : Int × Addr × V), ks[i]? = some k → ys[i]? = some y → ∃ x, xs[i]? = some x ∧ XRel k y x := by
  intro ks ys es r1 r2
  induction r1 generalizing es with
  | nil =>
   cases r2
   exact ⟨[], rfl, (fun _ h => nomatch h), rfl, rfl, fun i k y e => by simp at e⟩
  | @cons k y ks ys q t ih =>
   cases r2 with
   | @cons _ en _ es q2 t2 =>
    obtain ⟨xs, g1, g2, g3, g4, g5⟩ := ih es t2
    refine ⟨(nkD k, y.2.1, en.val) :: xs, ?_, fun x hx => ?_, by rw [Qe, Qe, g3], by rw [Ha, Ha, g4], fun i k' y' e1 e2 => ?_⟩
    ·rw [Ha, ← g1]
     congr 1
     obtain ⟨e1, e2, _⟩ := q2
     obtain ⟨eh, ek, ev⟩ := en
     show DictEntry.mk eh ek ev = _
     rw [show eh = y.1 from e1, show ek = .ref y.2.1 from e2, q.1]
     rfl
    ·rcases Qg.mp hx with rfl | hx
     ·exact q.2.is I
     ·exact g2 x hx
    ·cases i with
     | zero => cases e1; cases e2; exact ⟨_, rfl, rfl, rfl, q2.2.2⟩
     | succ i => exact g5 i k' y' (by simpa using e1) (by simpa using e2)
 obtain ⟨xs, g1, g2, g3, g4, g5⟩ := key ks ys ens.toList h.rel h4
 exact ⟨xs, ⟨o, ens, ep, h1, h2, h3, g1, g2, by rw [g4]; exact h.nd⟩, g3, g4, g5⟩
end
open PySem.W Builtin Builtin.Str Builtin.Float
end Cl
namespace Cl
open PySem PySem.Spec PyProof.Rows L2 He ClX
def lsOf (M : Mem) : D → Option (List D)
 | .v (.lst xs) => some (xs.map D.v)
 | .cell i => (match M[i]? with
  | some (some (.lst ds)) => some ds
  | _ => none)
 | _ => none
def sqOf (M : Mem) : D → Option (List D)
 | .v (.lst xs) => some (xs.map D.v)
 | .v (.tup xs) => some (xs.map D.v)
 | .cell i => (match M[i]? with
  | some (some (.lst ds)) => some ds
  | _ => none)
 | _ => none
section
variable {S : Sc}
theorem Zse {c : CS} {M : Mem} (ok : S.Ok c M) {d : D} {v : V} {ds : List D} (r : S.Vd c d v) (h : lsOf M d = some ds) : ∃ a vs, v = .ref a ∧ c.H a = some (.lst vs) ∧ S.Ld c ds vs := by
 cases d with
 | v x =>
  cases x with
  | lst xs =>
   cases h
   obtain ⟨a, vs, e, h1, h2⟩ := r
   exact ⟨a, vs, e, ok.rl.same _ _ h1, RpL.ds h2⟩
  | _ => cases h
 | cell i =>
  unfold lsOf at h
  dsimp only at h
  split at h
  ·rename_i xs m
   cases h
   obtain ⟨a, e, rfl⟩ := r
   obtain ⟨h1, o, h2, vs, rfl, h3⟩ := ok.rl.live i a _ e m
   exact ⟨a, vs, rfl, h2, h3⟩
  ·cases h
 | exn _ => cases h
theorem Zr2 {c : CS} {M : Mem} (ok : S.Ok c M) {d : D} {v : V} {ds : List D} (r : S.Vd c d v) (h : sqOf M d = some ds) : ∃ a vs, v = .ref a ∧ (SqL S.K c.H a vs ∨ SqT S.K c.H a vs) ∧ S.Ld c ds vs := by
 cases d with
 | v x =>
  cases x with
  | lst xs =>
   cases h
   obtain ⟨a, vs, e, h1, h2⟩ := r
   exact ⟨a, vs, e, .inl (Zen (ok.rl.same _ _ h1)), RpL.ds h2⟩
  | tup xs =>
   cases h
   obtain ⟨a, vs, e, h1, h2⟩ := r
   exact ⟨a, vs, e, .inr (Same.seqT ok.rl.same h1), RpL.ds h2⟩
  | _ => cases h
 | cell i =>
  unfold sqOf at h
  dsimp only at h
  split at h
  ·rename_i xs m
   cases h
   obtain ⟨a, e, rfl⟩ := r
   obtain ⟨h1, o, h2, vs, rfl, h3⟩ := ok.rl.live i a _ e m
   exact ⟨a, vs, rfl, .inl (Zen h2), h3⟩
  ·cases h
 | exn _ => cases h
theorem Zze {c : CS} {M : Mem} {Qd : DQ} {Q : VK} (ok : S.Ok c M) (po : PoE S c M Qd Q) {p : Addr} (hp : c.H p = none) {o : HO} {x : PV} (r : Rp S.K S.cs (upd c.F p o) x (.ref p)) (q : Qd (.v x) M) : Q (.ref p) (upd c.H p o) := by
 obtain ⟨r1, s1⟩ := ok.rl.lay hp o
 exact po ⟨upd c.F p o, c.ρ, upd c.H p o⟩ M _ (.v x) s1 r1 r q
theorem Zdz {c : CS} {M : Mem} {Qd : DQ} {Q : VK} (ok : S.Ok c M) (po : PoE S c M Qd Q) {p : Addr} (hp : c.H p = none) {vs : List V} {xs : List PV} (r : RpL S.K S.cs c.F xs vs) (q : Qd (.v (.lst xs)) M) : Q (.ref p) (upd c.H p (.lst vs)) :=
 Zze (x := .lst xs) ok po hp ⟨p, vs, rfl, upd_same, RpL.same (Za3 (ok.rl.fresh hp).1) xs vs r⟩ q
theorem Zzd {c : CS} {M : Mem} {Qd : DQ} {Q : VK} (ok : S.Ok c M) (po : PoE S c M Qd Q) {p : Addr} (hp : c.H p = none) {vs : List V} {xs : List PV} (r : RpL S.K S.cs c.F xs vs) (q : Qd (.v (.tup xs)) M) : Q (.ref p) (upd c.H p (.tup vs)) :=
 Zze (x := .tup xs) ok po hp ⟨p, vs, rfl, .inl (.inl upd_same), RpL.same (Za3 (ok.rl.fresh hp).1) xs vs r⟩ q
theorem Zl8 {c : CS} {M : Mem} {Qd : DQ} {Q : VK} (ok : S.Ok c M) (po : PoE S c M Qd Q) {p : Addr} (hp : c.H p = none) {vs : List V} {ds : List D} (r : S.Ld c ds vs) (q : Qd (.cell M.length) (M ++ [some (.lst ds)])) : Q (.ref p) (upd c.H p (.lst vs)) := by
 obtain ⟨r1, s1⟩ := ok.rl.newc hp (x := .lst ds) (o := .lst vs) ⟨vs, rfl, r⟩
 exact po ⟨c.F, c.ρ ++ [p], upd c.H p (.lst vs)⟩ _ _ (.cell M.length) s1 r1 ⟨p, by show (c.ρ ++ [p])[M.length]? = some p; rw [← ok.rl.len]; simp, rfl⟩ q
theorem po_v {c : CS} {M : Mem} {Qd : DQ} {Q : VK} (ok : S.Ok c M) (po : PoE S c M Qd Q) {v : V} {d : D} (r : S.Vd c d v) (q : Qd d M) : Q v c.H := po c M v d (Step.refl _ _) ok.rl r q
theorem Zbu {c : CS} {ds : List D} {vs : List V} {xs : List PV} (r : S.Ld c ds vs) (h : Zat ds = some xs) : RpL S.K S.cs c.F xs vs := by
 rw [Zdl h] at r
 exact r.pure
def dTup (a : DA) : DE := fun ds M Q => a ds M fun ys M1 => ∃ xs, Zat ys = some xs ∧ ys.length ≤ sizeLine ∧ Q (.v (.tup xs)) M1
def dLst (a : DA) : DE := fun ds M Q => a ds M fun ys M1 => ∃ xs, Zat ys = some xs ∧ ys.length ≤ sizeLine ∧ Q (.v (.lst xs)) M1
def Zoq (a : DA) : DE := fun ds M Q => a ds M fun ys M1 => ys.length ≤ sizeLine ∧ Q (.cell M1.length) (M1 ++ [some (.lst ys)])
theorem Zpc {tr : TA} {dr : DA} (ha : SimA S tr dr) : SimE S (tTup tr) (dTup dr) := fun c M σ ds Q Qd ok rs q po =>
 ha c M σ ds _ _ ok rs q fun c1 M1 v1 d1 s1 r1 p1 ⟨xs, e, hl, q1⟩ => ⟨by rw [← p1.len]; exact hl, fun p hp => Zzd (ok.step s1 r1) (po.step s1) hp (Zbu p1 e) q1⟩
theorem Zpd {tr : TA} {dr : DA} (ha : SimA S tr dr) : SimE S (tLst tr) (dLst dr) := fun c M σ ds Q Qd ok rs q po =>
 ha c M σ ds _ _ ok rs q fun c1 M1 v1 d1 s1 r1 p1 ⟨xs, e, hl, q1⟩ => ⟨by rw [← p1.len]; exact hl, fun p hp => Zdz (ok.step s1 r1) (po.step s1) hp (Zbu p1 e) q1⟩
theorem Zlh {tr : TA} {dr : DA} (ha : SimA S tr dr) : SimE S (tLst tr) (Zoq dr) := fun c M σ ds Q Qd ok rs q po =>
 ha c M σ ds _ _ ok rs q fun c1 M1 v1 d1 s1 r1 p1 ⟨hl, q1⟩ => ⟨by rw [← p1.len]; exact hl, fun p hp => Zl8 (ok.step s1 r1) (po.step s1) hp p1 q1⟩
abbrev vI (i : Int) : D := .v (.int i)
abbrev vB (b : Bool) : D := .v (.bl b)
abbrev vS (z : List Nat) : D := .v (.str z)
abbrev vL (xs : List PV) : D := .v (.lst xs)
abbrev vT (xs : List PV) : D := .v (.tup xs)
def uAdd : DR2 := fun x y M Q => (∃ i j, x = vI i ∧ y = vI j ∧ Q (vI (i + j)) M) ∨ (∃ a b, x = vS a ∧ y = vS b ∧ a.length + b.length ≤ sizeLine ∧ Q (vS (a ++ b)) M) ∨
 (∃ a b, x = vL a ∧ y = vL b ∧ a.length + b.length ≤ sizeLine ∧ Q (vL (a ++ b)) M)
theorem Zni : SimO S zAdd uAdd := fun c M x y dx dy Q Qd ok rx ry q po => by
 rcases q with ⟨i, j, rfl, rfl, q⟩ | ⟨a, b, rfl, rfl, h, q⟩ | ⟨a, b, rfl, rfl, h, q⟩
 ·cases (show x = .int i from rx); cases (show y = .int j from ry)
  exact po_v ok po (d := vI (i + j)) rfl q
 ·cases (show x = sv a from rx); cases (show y = sv b from ry)
  exact ⟨h, po_v ok po (d := vS (a ++ b)) rfl q⟩
 ·obtain ⟨p, vs, e1, h1, r1⟩ := rx
  obtain ⟨p', vs', e2, h2, r2⟩ := ry
  cases e1; cases e2
  exact ⟨vs, vs', ok.rl.same _ _ h1, ok.rl.same _ _ h2, by rw [← r1.len, ← r2.len]; exact h, fun p hp => Zdz ok po hp (r1.a2.append r2.a2).rpL q⟩
def uSub : DR2 := fun x y M Q => ∃ i j, x = vI i ∧ y = vI j ∧ Q (vI (i - j)) M
theorem Z3o : SimO S zSub uSub := fun c M x y dx dy Q Qd ok rx ry q po => by
 obtain ⟨i, j, rfl, rfl, q⟩ := q
 cases (show x = .int i from rx); cases (show y = .int j from ry)
 exact po_v ok po (d := vI (i - j)) rfl q
theorem A2.rep {α β : Type} {R : α → β → Prop} {xs : List α} {vs : List β} (r : A2 R xs vs) : ∀ n : Nat, A2 R (List.replicate n xs).flatten (List.replicate n vs).flatten
 | 0 => .nil
 | n + 1 => by
  rw [Gk, Gk, Lm, Lm]
  exact r.append (A2.rep r n)
def uMul : DR2 := fun x y M Q => (∃ i j, x = vI i ∧ y = vI j ∧ CMul i j ∧ Q (vI (i * j)) M) ∨ (∃ a k, x = vS a ∧ y = vI k ∧ 0 ≤ k ∧ k ≤ 100000 ∧ a.length ≤ 100 ∧ Q (vS (rep a k.toNat)) M) ∨
 (∃ a k, x = vL a ∧ y = vI k ∧ -(2 ^ 63) ≤ k ∧ k < 2 ^ 63 ∧ a.length * k.toNat ≤ sizeLine ∧ Q (vL (List.replicate k.toNat a).flatten) M)
theorem Ztj : SimO S zMul uMul := fun c M x y dx dy Q Qd ok rx ry q po => by
 rcases q with ⟨i, j, rfl, rfl, h, q⟩ | ⟨a, k, rfl, rfl, q1, q2, q3, q⟩ | ⟨a, k, rfl, rfl, q1, q2, q3, q⟩
 ·cases (show x = .int i from rx); cases (show y = .int j from ry)
  exact ⟨h, po_v ok po (d := vI (i * j)) rfl q⟩
 ·cases (show x = sv a from rx); cases (show y = .int k from ry)
  exact ⟨q1, q2, q3, po_v ok po (d := vS (rep a k.toNat)) rfl q⟩
 ·obtain ⟨p, vs, e1, h1, r1⟩ := rx
  cases e1; cases (show y = .int k from ry)
  exact ⟨vs, ok.rl.same _ _ h1, q1, q2, by rw [← r1.len]; exact q3, fun p hp => Zdz ok po hp (r1.a2.rep _).rpL q⟩
def uDiv : DR2 := fun x y M Q => ∃ i j, x = vI i ∧ y = vI j ∧ CDivW i j ∧ Q (vI (i / j)) M
theorem Ztm : SimO S zDiv uDiv := fun c M x y dx dy Q Qd ok rx ry q po => by
 obtain ⟨i, j, rfl, rfl, h, q⟩ := q
 cases (show x = .int i from rx); cases (show y = .int j from ry)
 exact ⟨h, po_v ok po (d := vI (i / j)) rfl q⟩
def uMod : DR2 := fun x y M Q => ∃ i j, x = vI i ∧ y = vI j ∧ 0 < j ∧ Q (vI (i % j)) M
theorem Ztk : SimO S zMod uMod := fun c M x y dx dy Q Qd ok rx ry q po => by
 obtain ⟨i, j, rfl, rfl, h, q⟩ := q
 cases (show x = .int i from rx); cases (show y = .int j from ry)
 exact ⟨h, po_v ok po (d := vI (i % j)) rfl q⟩
def uPow : DR2 := fun x y M Q => ∃ i j, x = vI i ∧ y = vI j ∧ CPow i j ∧ Q (vI (i ^ j.toNat)) M
theorem Zyy : SimO S zPow uPow := fun c M x y dx dy Q Qd ok rx ry q po => by
 obtain ⟨i, j, rfl, rfl, h, q⟩ := q
 cases (show x = .int i from rx); cases (show y = .int j from ry)
 exact ⟨h, po_v ok po (d := vI (i ^ j.toNat)) rfl q⟩
def uNeg : D → Mem → DQ → Prop := fun x M Q => ∃ i, x = vI i ∧ Q (vI (-i)) M
theorem Zs9 : SimU S zNeg uNeg := fun c M x dx Q Qd ok rx q po => by
 obtain ⟨i, rfl, q⟩ := q
 cases (show x = .int i from rx)
 exact po_v ok po (d := vI (-i)) rfl q
def uLt : DR2 := fun x y M Q => ∃ i j, x = vI i ∧ y = vI j ∧ Q (vB (decide (i < j))) M
theorem Z0z : SimO S zLt uLt := fun c M x y dx dy Q Qd ok rx ry q po => by
 obtain ⟨i, j, rfl, rfl, q⟩ := q
 cases (show x = .int i from rx); cases (show y = .int j from ry)
 exact po_v ok po (d := vB (decide (i < j))) rfl q
def uLe : DR2 := fun x y M Q => ∃ i j, x = vI i ∧ y = vI j ∧ Q (vB (decide (i ≤ j))) M
theorem Z00 : SimO S zLe uLe := fun c M x y dx dy Q Qd ok rx ry q po => by
 obtain ⟨i, j, rfl, rfl, q⟩ := q
 cases (show x = .int i from rx); cases (show y = .int j from ry)
 exact po_v ok po (d := vB (decide (i ≤ j))) rfl q
def uGt : DR2 := fun x y M Q => ∃ i j, x = vI i ∧ y = vI j ∧ Q (vB (decide (j < i))) M
theorem Zw2 : SimO S zGt uGt := fun c M x y dx dy Q Qd ok rx ry q po => by
 obtain ⟨i, j, rfl, rfl, q⟩ := q
 cases (show x = .int i from rx); cases (show y = .int j from ry)
 exact po_v ok po (d := vB (decide (j < i))) rfl q
def uGe : DR2 := fun x y M Q => ∃ i j, x = vI i ∧ y = vI j ∧ Q (vB (decide (j ≤ i))) M
theorem Z04 : SimO S zGe uGe := fun c M x y dx dy Q Qd ok rx ry q po => by
 obtain ⟨i, j, rfl, rfl, q⟩ := q
 cases (show x = .int i from rx); cases (show y = .int j from ry)
 exact po_v ok po (d := vB (decide (j ≤ i))) rfl q
def eqP : PV → PV → Option Bool
 | .non, .non => some true
 | .non, .int _ | .int _, .non | .non, .bl _ | .bl _, .non | .non, .str _ | .str _, .non | .int _, .str _ | .str _, .int _ | .bl _, .str _ | .str _, .bl _ => some false
 | .int i, .int j => some (decide (i = j))
 | .bl i, .bl j => some (decide (i = j))
 | .str a, .str b => some (decide (a = b))
 | _, _ => none
mutual
def pdat : PV → PyData
 | .bl b => .bool b
 | .int i => .int i
 | .str z => .str ⟨⟨z⟩⟩
 | .lst xs => .list (Zdm xs)
 | .tup xs => .tuple (Zdm xs)
 | _ => .none
def Zdm : List PV → List PyData
 | [] => []
 | x :: xs => pdat x :: Zdm xs
end
mutual
def Zgg : PV → Bool
 | .non | .bl _ | .int _ | .str _ => true
 | .lst xs | .tup xs => Zku xs
 | _ => false
def Zku : List PV → Bool
 | [] => true
 | x :: xs => Zgg x && Zku xs
end
mutual
theorem Rp.dp {K : PySem.W.Frag} {cs : List Cn} {F H : Hp} (s : Same F H) : ∀ (x : PV) (v : V), Zgg x = true → Rp K cs F x v → Dp K H v (pdat x)
 | .non, _, _, h => by cases (show _ = V.non from h); exact .non
 | .bl b, _, _, h => by cases (show _ = V.bl b from h); exact .bl b
 | .int i, _, _, h => by cases (show _ = V.int i from h); exact .int i
 | .str z, _, _, h => by cases (show _ = sv z from h); exact .str _
 | .lst xs, _, hd, ⟨a, vs, e, h1, h2⟩ => by cases e; exact .lst (Zen (s _ _ h1)) (RpL.dp s xs vs hd h2)
 | .tup xs, _, hd, ⟨a, vs, e, h1, h2⟩ => by cases e; exact .tup (Same.seqT s h1) (RpL.dp s xs vs hd h2)
theorem RpL.dp {K : PySem.W.Frag} {cs : List Cn} {F H : Hp} (s : Same F H) : ∀ (xs : List PV) (vs : List V), Zku xs = true → RpL K cs F xs vs → DpAll K H vs (Zdm xs)
 | [], _, _, h => by cases (show _ = [] from h); exact .nil
 | x :: xs, _, hd, ⟨v, ws, e, h1, h2⟩ => by
  cases e
  have hd' : (Zgg x && Zku xs) = true := hd
  rw [H6] at hd'
  exact .cons (Rp.dp s x v hd'.1 h1) (RpL.dp s xs ws hd'.2 h2)
end
theorem Zyb {x y : PV} {b : Bool} (h : eqP x y = some b) : (x = .non ∨ (∃ i, x = .bl i) ∨ (∃ i, x = .int i) ∨ ∃ z, x = .str z) ∧ (y = .non ∨ (∃ i, y = .bl i) ∨ (∃ i, y = .int i) ∨ ∃ z, y = .str z) := by
 unfold eqP at h
 split at h <;> first | (cases h; done) | exact ⟨by simp, by simp⟩
theorem Zvw {K : PySem.W.Frag} {cs : List Cn} {F : Hp} {x y : PV} {v u : V} {b : Bool} (h : eqP x y = some b) (rx : Rp K cs F x v) (ry : Rp K cs F y u) : eqB v u = some b := by
 obtain ⟨h1, h2⟩ := Zyb h
 rcases h1 with rfl | ⟨i, rfl⟩ | ⟨i, rfl⟩ | ⟨i, rfl⟩ <;> rcases h2 with rfl | ⟨j, rfl⟩ | ⟨j, rfl⟩ | ⟨j, rfl⟩ <;> (cases (show v = _ from rx); cases (show u = _ from ry); exact h)
theorem Zt8 {K : PySem.W.Frag} {cs : List Cn} {F : Hp} {x : PV} {v : V} (hd : Zgg x = true) (r : Rp K cs F x v) : (x = .non ∧ v = .non) ∨ (∃ i, x = .bl i ∧ v = .bl i) ∨ (∃ i, x = .int i ∧ v = .int i) ∨ (∃ z, x = .str z ∧ v = sv z) ∨ ((∃ a, v = .ref a) ∧ ∀ y, eqP x y = none ∧ eqP y x = none) := by
 cases x with
 | non => exact Or.inl ⟨rfl, r⟩
 | bl i => exact Or.inr (Or.inl ⟨i, rfl, r⟩)
 | int i => exact Or.inr (Or.inr (Or.inl ⟨i, rfl, r⟩))
 | str i => exact Or.inr (Or.inr (Or.inr (Or.inl ⟨i, rfl, r⟩)))
 | lst xs =>
  obtain ⟨a, vs, e, _⟩ := r
  exact Or.inr (Or.inr (Or.inr (Or.inr ⟨⟨a, e⟩, fun y => by cases y <;> exact ⟨rfl, rfl⟩⟩)))
 | tup xs =>
  obtain ⟨a, vs, e, _⟩ := r
  exact Or.inr (Or.inr (Or.inr (Or.inr ⟨⟨a, e⟩, fun y => by cases y <;> exact ⟨rfl, rfl⟩⟩)))
 | _ => cases hd
theorem Zro {K : PySem.W.Frag} {cs : List Cn} {F : Hp} {x y : PV} {v u : V} (h : eqP x y = none) (dx : Zgg x = true) (dy : Zgg y = true) (rx : Rp K cs F x v) (ry : Rp K cs F y u) : eqB v u = none := by
 rcases Zt8 dx rx with ⟨rfl, rfl⟩ | ⟨i, rfl, rfl⟩ | ⟨i, rfl, rfl⟩ | ⟨i, rfl, rfl⟩ | ⟨⟨a, rfl⟩, _⟩ <;> rcases Zt8 dy ry with ⟨rfl, rfl⟩ | ⟨j, rfl, rfl⟩ | ⟨j, rfl, rfl⟩ | ⟨j, rfl, rfl⟩ | ⟨⟨b, rfl⟩, _⟩ <;> first | rfl | exact h
def uEq : DR2 := fun x y M Q => ∃ a b, x = .v a ∧ y = .v b ∧ ((∃ k, eqP a b = some k ∧ Q (vB k) M) ∨ (eqP a b = none ∧ Zgg a = true ∧ Zgg b = true ∧ SeqAt.shaped (pdat a) = true ∧ SeqAt.shaped (pdat b) = true ∧ Q (vB (PyData.eqv (pdat a) (pdat b))) M))
def uNe : DR2 := fun x y M Q => ∃ a b, x = .v a ∧ y = .v b ∧ ((∃ k, eqP a b = some k ∧ Q (vB (!k)) M) ∨ (eqP a b = none ∧ Zgg a = true ∧ Zgg b = true ∧ SeqAt.shaped (pdat a) = true ∧ SeqAt.shaped (pdat b) = true ∧ Q (vB (!PyData.eqv (pdat a) (pdat b))) M))
theorem Z05 : SimO S (zEq S.K) uEq := fun c M x y dx dy Q Qd ok rx ry q po => by
 obtain ⟨a, b, rfl, rfl, ⟨k, e, q⟩ | ⟨e, h1, h2, h3, h4, q⟩⟩ := q
 ·unfold zEq
  rw [Zvw e rx ry]
  exact po_v ok po (d := vB (k)) rfl q
 ·unfold zEq
  rw [Zro e h1 h2 rx ry]
  exact ⟨_, _, Rp.dp ok.rl.same a x h1 rx, Rp.dp ok.rl.same b y h2 ry, h3, h4, po_v ok po (d := vB _) rfl q⟩
theorem Z0y : SimO S (zNe S.K) uNe := fun c M x y dx dy Q Qd ok rx ry q po => by
 obtain ⟨a, b, rfl, rfl, ⟨k, e, q⟩ | ⟨e, h1, h2, h3, h4, q⟩⟩ := q
 ·unfold zNe
  rw [Zvw e rx ry]
  exact po_v ok po (d := vB (!k)) rfl q
 ·unfold zNe
  rw [Zro e h1 h2 rx ry]
  exact ⟨_, _, Rp.dp ok.rl.same a x h1 rx, Rp.dp ok.rl.same b y h2 ry, h3, h4, po_v ok po (d := vB _) rfl q⟩
def isNon : D → Bool
 | .v .non => true
 | _ => false
theorem Zuk {c : CS} {d : D} {v : V} (r : S.Vd c d v) : decide (v = V.non) = isNon d := by
 cases d with
 | cell i => obtain ⟨a, _, rfl⟩ := r; rfl
 | exn a => cases (show v = .ref a from r); rfl
 | v x =>
  cases x with
  | non => cases (show v = _ from r); rfl
  | bl _ => cases (show v = _ from r); rfl
  | int _ => cases (show v = _ from r); rfl
  | str _ => cases (show v = _ from r); rfl
  | ty _ => cases (show v = _ from r); rfl
  | cls _ => cases (show v = _ from r); rfl
  | lst _ => obtain ⟨_, _, rfl, _⟩ := r; rfl
  | tup _ => obtain ⟨_, _, rfl, _⟩ := r; rfl
  | obj _ _ => obtain ⟨_, _, _, rfl, _⟩ := r; rfl
  | dct _ _ => obtain ⟨_, _, rfl, _⟩ := r; rfl
  | scr _ => obtain ⟨_, rfl, _⟩ := r; rfl
def uIs : DR2 := fun x y M Q => (y = .v .non ∧ Q (vB (isNon x)) M) ∨ ∃ a b, x = vB a ∧ y = vB b ∧ Q (vB (decide (a = b))) M
def Zkf : DR2 := fun x y M Q => (y = .v .non ∧ Q (vB (!isNon x)) M) ∨ ∃ a b, x = vB a ∧ y = vB b ∧ Q (vB (!decide (a = b))) M
theorem Z02 : SimO S zIs uIs := fun c M x y dx dy Q Qd ok rx ry q po => by
 rcases q with ⟨rfl, q⟩ | ⟨a, b, rfl, rfl, q⟩
 ·cases (show y = .non from ry)
  have e : zIs x .non c.H Q = Q (.bl (decide (x = .non))) c.H := by cases x <;> rfl
  rw [e, Zuk rx]
  exact po_v ok po (d := vB _) rfl q
 ·cases (show x = .bl a from rx); cases (show y = .bl b from ry)
  exact po_v ok po (d := vB _) rfl q
theorem Zlc : SimO S Zkd Zkf := fun c M x y dx dy Q Qd ok rx ry q po => by
 rcases q with ⟨rfl, q⟩ | ⟨a, b, rfl, rfl, q⟩
 ·cases (show y = .non from ry)
  have e : Zkd x .non c.H Q = Q (.bl (!decide (x = .non))) c.H := by cases x <;> rfl
  rw [e, Zuk rx]
  exact po_v ok po (d := vB _) rfl q
 ·cases (show x = .bl a from rx); cases (show y = .bl b from ry)
  exact po_v ok po (d := vB _) rfl q
def PV.flat : PV → Bool
 | .non | .bl _ | .int _ | .str _ => true
 | _ => false
def PV.eqF : PV → PV → Bool
 | .non, .non => true
 | .bl a, .bl b => a == b
 | .bl a, .int b => (if a then 1 else 0) == b
 | .int a, .bl b => a == (if b then 1 else 0)
 | .int a, .int b => decide (a = b)
 | .str a, .str b => decide (a = b)
 | _, _ => false
theorem Zi3 {x : PV} (h : x.flat = true) : x = .non ∨ (∃ i, x = .bl i) ∨ (∃ i, x = .int i) ∨ ∃ z, x = .str z := by
 cases x <;> first | (cases h; done) | simp
theorem Zz5 {K : PySem.W.Frag} {cs : List Cn} {F : Hp} {x : PV} {v : V} (h : x.flat = true) (r : Rp K cs F x v) : flatV v = true := by
 rcases Zi3 h with rfl | ⟨i, rfl⟩ | ⟨i, rfl⟩ | ⟨i, rfl⟩ <;> (cases (show v = _ from r); rfl)
theorem Z88 {K : PySem.W.Frag} {cs : List Cn} {F : Hp} {x y : PV} {v u : V} (h : x.flat = true) (h' : y.flat = true) (r : Rp K cs F x v) (r' : Rp K cs F y u) : eqV v u = x.eqF y := by
 rcases Zi3 h with rfl | ⟨i, rfl⟩ | ⟨i, rfl⟩ | ⟨i, rfl⟩ <;> rcases Zi3 h' with rfl | ⟨j, rfl⟩ | ⟨j, rfl⟩ | ⟨j, rfl⟩ <;> (cases (show v = _ from r); cases (show u = _ from r'); first
  | rfl
  | (show (_ == _) = decide _; rw [Hm]; simp))
theorem Zvu {K : PySem.W.Frag} {cs : List Cn} {F : Hp} {xs : List PV} {vs : List V} (r : A2 (Rp K cs F) xs vs) : xs.all PV.flat = true → vs.all flatV = true := by
 induction r with
 | nil => exact fun _ => rfl
 | cons r t ih =>
  intro h
  rw [G5, H6] at h ⊢
  exact ⟨Zz5 h.1 r, ih h.2⟩
theorem in_v {K : PySem.W.Frag} {cs : List Cn} {F : Hp} {x : PV} {v : V} (hx : x.flat = true) (rx : Rp K cs F x v) {xs : List PV} {vs : List V} (r : A2 (Rp K cs F) xs vs) : xs.all PV.flat = true → inV v vs = xs.any fun y => y.eqF x := by
 induction r with
 | nil => exact fun _ => rfl
 | cons r t ih =>
  intro h
  rw [G5, H6] at h
  show (eqV _ v || inV v _) = _
  rw [ih h.2, Z88 h.1 hx r rx, List.any_cons]
def uInB (b : Bool) : DR2 := fun x y M Q => (∃ c z, x = vS [c] ∧ y = vS z ∧ Q (vB (b != decide (c ∈ z))) M) ∨ ∃ x' ys xs, x = .v x' ∧ sqOf M y = some ys ∧ Zat ys = some xs ∧ x'.flat = true ∧ xs.all PV.flat = true ∧ Q (vB (b != xs.any fun y => y.eqF x')) M
abbrev uIn : DR2 := uInB false
abbrev Zgn : DR2 := uInB true
theorem Zz3 {c : CS} {M : Mem} (ok : S.Ok c M) {x : PV} {v u : V} {d : D} {ys : List D} {xs : List PV} (rx : S.Vd c (.v x) v) (ry : S.Vd c d u) (h1 : sqOf M d = some ys) (h2 : Zat ys = some xs) (h3 : x.flat = true) (h4 : xs.all PV.flat = true) : ∃ a vs, u = .ref a ∧ (SqL S.K c.H a vs ∨ SqT S.K c.H a vs) ∧ flatV v = true ∧ vs.all flatV = true ∧ inV v vs = xs.any fun y => y.eqF x := by
 obtain ⟨a, vs, e, hs, r⟩ := Zr2 ok ry h1
 have r' := (Zbu r h2).a2
 exact ⟨a, vs, e, hs, Zz5 h3 rx, Zvu r' h4, in_v h3 rx r' h4⟩
theorem Z03 : SimO S (zIn S.K) uIn := fun c M x y dx dy Q Qd ok rx ry q po => by
 rcases q with ⟨c', z, rfl, rfl, q⟩ | ⟨x', ys, xs, rfl, h1, h2, h3, h4, q⟩
 ·cases (show x = sv [c'] from rx); cases (show y = sv z from ry)
  rw [Gv] at q
  exact po_v ok po (d := vB _) rfl q
 ·rw [Gv] at q
  obtain ⟨a, vs, rfl, g1, g2, g3, g4⟩ := Zz3 ok rx ry h1 h2 h3 h4
  exact ⟨vs, g1, g2, g3, by rw [g4]; exact po_v ok po (d := vB _) rfl q⟩
theorem Zlb : SimO S (Zm3 S.K) Zgn := fun c M x y dx dy Q Qd ok rx ry q po => by
 rcases q with ⟨c', z, rfl, rfl, q⟩ | ⟨x', ys, xs, rfl, h1, h2, h3, h4, q⟩
 ·cases (show x = sv [c'] from rx); cases (show y = sv z from ry)
  rw [G4] at q
  exact po_v ok po (d := vB _) rfl q
 ·rw [G4] at q
  obtain ⟨a, vs, rfl, g1, g2, g3, g4⟩ := Zz3 ok rx ry h1 h2 h3 h4
  exact ⟨vs, g1, g2, g3, by rw [g4]; exact po_v ok po (d := vB _) rfl q⟩
theorem Zwk {α β : Type} {R : α → β → Prop} {xs : List α} {vs : List β} (r : A2 R xs vs) {i : Int} {x : α} (h : atI xs i = some x) : ∃ v, atI vs i = some v ∧ R x v := by
 unfold atI at h ⊢
 rw [← r.len]
 cases e : ixN xs.length i with
 | none => rw [e] at h; cases h
 | some j =>
  rw [e] at h
  exact r.get h
def uIx : DR2 := fun x y M Q => ∃ i, y = vI i ∧ ((∃ z c, x = vS z ∧ z.length ≤ sizeLine ∧ atI z i = some c ∧ Q (vS [c]) M) ∨ (∃ xs u, (x = vL xs ∨ x = vT xs) ∧ atI xs i = some u ∧ Q (.v u) M) ∨
 ∃ k ds u, x = .cell k ∧ M[k]? = some (some (.lst ds)) ∧ atI ds i = some u ∧ Q u M)
theorem Z01 : SimO S (zIx S.K) uIx := fun c M x y dx dy Q Qd ok rx ry q po => by
 obtain ⟨i, rfl, ⟨z, c', rfl, h1, h2, q⟩ | ⟨xs, z, rfl | rfl, hz, q⟩ | ⟨k, ds, z, rfl, m, hz, q⟩⟩ := q <;> cases (show y = .int i from ry)
 ·cases (show x = sv z from rx)
  exact ⟨c', h1, h2, po_v ok po (d := vS [c']) rfl q⟩
 ·obtain ⟨a, vs, e, h1, h2⟩ := rx
  cases e
  obtain ⟨v, g1, g2⟩ := Zwk h2.a2 hz
  exact ⟨vs, v, .inl (Zen (ok.rl.same _ _ h1)), g1, po_v ok po (d := .v z) g2 q⟩
 ·obtain ⟨a, vs, e, h1, h2⟩ := rx
  cases e
  obtain ⟨v, g1, g2⟩ := Zwk h2.a2 hz
  exact ⟨vs, v, .inr (Same.seqT ok.rl.same h1), g1, po_v ok po (d := .v z) g2 q⟩
 ·obtain ⟨a, e, ea⟩ := rx
  cases ea
  obtain ⟨h1, o, h2, vs, rfl, h3⟩ := ok.rl.live k a _ e m
  obtain ⟨v, g1, g2⟩ := Zwk h3 hz
  exact ⟨vs, v, .inl (Zen h2), g1, po_v ok po g2 q⟩
theorem A2.cut {α β : Type} {R : α → β → Prop} {xs : List α} {vs : List β} (r : A2 R xs vs) (lo hi : Option Int) : A2 R (cut xs lo hi) (cut vs lo hi) := by
 unfold Cl.cut
 rw [r.len]
 exact (r.drop _).take _
def uSl : D → Option Int → Option Int → Mem → DQ → Prop := fun x lo hi M Q => (∃ z, x = vS z ∧ z.length ≤ sizeLine ∧ Q (vS (cut z lo hi)) M) ∨ (∃ xs, x = vL xs ∧ Q (vL (cut xs lo hi)) M) ∨ (∃ ns, x = .v (.scr ns) ∧ Q (vL ((cut ns lo hi).map PV.int)) M) ∨
 ∃ k ds xs, x = .cell k ∧ M[k]? = some (some (.lst ds)) ∧ Zat ds = some xs ∧ Q (vL (cut xs lo hi)) M
theorem Z2e {K : PySem.W.Frag} {cs : List Cn} {F : Hp} (ns : List Int) : RpL K cs F (ns.map PV.int) (ns.map V.int) := (A2.of_map (R := Rp K cs F) (f := PV.int) (g := V.int) (fun _ => rfl) ns).rpL
theorem Z07 : SimL S (zSl S.K) uSl := fun c M x dx lo hi Q Qd ok rx q po => by
 rcases q with ⟨z, rfl, h, q⟩ | ⟨xs, rfl, q⟩ | ⟨ns, rfl, q⟩ | ⟨k, ds, xs, rfl, m, hp, q⟩
 ·cases (show x = sv z from rx)
  exact ⟨h, po_v ok po (d := vS _) rfl q⟩
 ·obtain ⟨a, vs, e, h1, h2⟩ := rx
  cases e
  exact ⟨vs, Zen (ok.rl.same _ _ h1), fun p hp => Zdz ok po hp (h2.a2.cut lo hi).rpL q⟩
 ·obtain ⟨a, e, h1⟩ := rx
  cases e
  refine ⟨_, ok.rl.same.seq h1, fun p hp => Zdz ok po hp ?_ q⟩
  rw [Zgk]
  exact Z2e _
 ·obtain ⟨a, e, ea⟩ := rx
  cases ea
  obtain ⟨h1, o, h2, vs, rfl, h3⟩ := ok.rl.live k a _ e m
  exact ⟨vs, Zen h2, fun p hp' => Zdz ok po hp' ((Zbu h3 hp).a2.cut lo hi).rpL q⟩
def uSlT : D → Option Int → Option Int → Mem → DQ → Prop := fun x lo hi M Q => ∃ xs, x = vT xs ∧ ¬ (HT.sIx xs.length 0 lo = 0 ∧ HT.sIx xs.length xs.length hi = xs.length) ∧ Q (vT (cut xs lo hi)) M
theorem Zyz : SimL S (rSlT S.K) uSlT := fun c M x dx lo hi Q Qd ok rx q po => by
 obtain ⟨xs, rfl, h, q⟩ := q
 obtain ⟨a, vs, e, h1, h2⟩ := rx
 refine ⟨a, vs, e, Same.seqT ok.rl.same h1, by rw [← h2.len]; exact h, fun p hp => Zzd ok po hp (h2.a2.cut lo hi).rpL q⟩
def dRev (a : DE) : DE := fun ds M Q => a ds M fun x M1 => ∃ z, x = .v (.str z) ∧ z.length ≤ sizeLine ∧ Q (.v (.str z.reverse)) M1
def Zjd (r r' : DR2) (a b e : DE) : DE := fun ds M Q => a ds M fun x M1 => b ds M1 fun y M2 => r x y M2 fun z M3 => ∃ k, z = .v (.bl k) ∧ if k = true then e ds M3 fun u M4 => r' y u M4 Q else Q (.v (.bl false)) M3
theorem Zib {r r' : R2} {d d' : DR2} {ta tb tc : TE} {da db dc : DE} (hr : SimO S r d) (hr' : SimO S r' d') (ha : SimE S ta da) (hb : SimE S tb db) (hc : SimE S tc dc) : SimE S (tChain r r' ta tb tc) (Zjd d d' da db dc) := fun c M σ ds Q Qd ok rs q po =>
 ha c M σ ds _ _ ok rs q fun c1 M1 v1 d1 s1 r1 p1 q1 => hb c1 M1 σ ds _ _ (ok.step s1 r1) (rs.step s1) q1 fun c2 M2 v2 d2 s2 r2 p2 q2 => by
  have ok2 := (ok.step s1 r1).step s2 r2
  refine hr c2 M2 v1 v2 d1 d2 _ _ ok2 (Sc.Vd.step p1 s2) p2 q2 fun c3 M3 v3 d3 s3 r3 p3 ⟨k, e, q3⟩ => ?_
  subst e
  cases (show v3 = .bl k from p3)
  refine ⟨k, rfl, ?_⟩
  cases k with
  | true => exact hc c3 M3 σ ds _ _ (ok2.step s3 r3) (((rs.step s1).step s2).step s3) q3 fun c4 M4 v4 d4 s4 r4 p4 q4 => hr' c4 M4 v2 v4 d2 d4 _ _ ((ok2.step s3 r3).step s4 r4) (Sc.Vd.step (Sc.Vd.step p2 s3) s4) p4 q4 (po.step (((s1.trans s2).trans s3).trans s4))
  | false => exact po c3 M3 _ (vB false) ((s1.trans s2).trans s3) r3 rfl q3
end
open StX (CallO callO_with)
section
variable {S : Sc}
abbrev sgn (z : List Nat) : List PV := z.map fun c => .str [c]
theorem Zq0 {K : PySem.W.Frag} {cs : List Cn} {F : Hp} (z : List Nat) : RpL K cs F (sgn z) (sgs z) := (A2.of_map (R := Rp K cs F) (f := fun c => PV.str [c]) (g := fun c => sv [c]) (fun _ => rfl) z).rpL
theorem ld1 {c : CS} {d : D} {vs : List V} (r : S.Ld c [d] vs) : ∃ v, vs = [v] ∧ S.Vd c d v := by
 cases r with
 | cons r t => cases t; exact ⟨_, rfl, r⟩
theorem ld2 {c : CS} {d e : D} {vs : List V} (r : S.Ld c [d, e] vs) : ∃ v u, vs = [v, u] ∧ S.Vd c d v ∧ S.Vd c e u := by
 cases r with
 | cons r t =>
  obtain ⟨u, rfl, q⟩ := ld1 t
  exact ⟨_, _, rfl, r, q⟩
def uLen : DR := fun xs M Q => ∃ d, xs = [d] ∧ ((∃ z, d = vS z ∧ z.length ≤ sizeLine ∧ Q (vI z.length) M) ∨ ∃ ys, sqOf M d = some ys ∧ Q (vI ys.length) M)
theorem Zte {P : Program} {w : World} : SimR S (Zm4 P w S.K) uLen := fun c M vs ds Q Qd ok r0 q po => by
 obtain ⟨d, rfl, h⟩ := q
 obtain ⟨v, rfl, r⟩ := ld1 r0
 refine Or.inl ⟨v, ?_⟩
 rcases h with ⟨z, rfl, hz, q⟩ | ⟨ys, hy, q⟩
 ·cases (show v = sv z from r)
  exact ⟨z.length, rfl, ⟨hz, rfl⟩, po_v ok po (d := vI z.length) rfl q⟩
 ·obtain ⟨a, vs, rfl, h1, h2⟩ := Zr2 ok r hy
  refine ⟨vs.length, rfl, ?_, ?_⟩
  ·rcases h1 with h1 | h1
   ·exact Or.inl ⟨vs, h1, rfl⟩
   ·exact Or.inr ⟨vs, h1, rfl⟩
  ·rw [← h2.len]
   exact po_v ok po (d := vI ys.length) rfl q
def Zsz : DR := fun xs M Q => ∃ z, xs = [vS z] ∧ z.length ≤ 1000 ∧ ∀ n : Nat, decide ((n : Int) = (z.length : Int)) = decide z.Nodup → Q (vI n) M
def Zmu (a : DA) : DE := dCB Zsz a
theorem Zkn {P : Program} {w : World} {ta : TA} {da : DA} (ha : SimA S ta da) : SimE S (tCB (Zm4 P w S.K) (tCons (tCB (zSet P w) ta) tNil)) (Zmu da) := fun c M σ ds Q Qd ok rs q po =>
 ha c M σ ds _ _ ok rs q fun c1 M1 v1 d1 s1 r1 p1 ⟨z, e, hz, q1⟩ => by
  subst e
  obtain ⟨v, rfl, r⟩ := ld1 p1
  cases (show v = sv z from r)
  refine ⟨hz, fun p l hp nd m hl => Or.inr ⟨p, l, rfl, upd_same, by omega, ?_⟩⟩
  obtain ⟨r2, s2⟩ := r1.Zoz hp (TxS P w p l)
  exact po ⟨_, _, _⟩ M1 _ (vI l.length) (s1.trans s2) r2 rfl (q1 l.length (Zpu nd m))
def uSrt : DR := fun xs M Q => ∃ z, xs = [vS z] ∧ z.length < 64 ∧ Q (vL (sgn (srt z))) M
theorem Ztc {P : Program} {w : World} : SimR S (Ze3 P w S.K) uSrt := fun c M vs ds Q Qd ok r0 q po => by
 obtain ⟨z, rfl, hz, q⟩ := q
 obtain ⟨v, rfl, r⟩ := ld1 r0
 cases (show v = sv z from r)
 refine Or.inl ⟨hz, fun zs p pm so hp => ?_⟩
 rw [Zng pm so]
 exact Zdz ok po hp (Zq0 _) q
def Zmr (a : DA) : DE := dCB (fun xs M Q => ∃ z, xs = [vS z] ∧ z.length < 64 ∧ ∀ ys : List Nat, ys.Pairwise (· < ·) → (∀ c, c ∈ ys ↔ c ∈ z) → Q (vL (sgn ys)) M) a
theorem Zkj {P : Program} {w : World} {ta : TA} {da : DA} (ha : SimA S ta da) : SimE S (tCB (Ze3 P w S.K) (tCons (tCB (zSet P w) ta) tNil)) (Zmr da) := fun c M σ ds Q Qd ok rs q po =>
 ha c M σ ds _ _ ok rs q fun c1 M1 v1 d1 s1 r1 p1 ⟨z, e, hz, q1⟩ => by
  subst e
  obtain ⟨v, rfl, r⟩ := ld1 p1
  cases (show v = sv z from r)
  refine ⟨by omega, fun p l hp nd m hl => Or.inr ⟨p, l, rfl, upd_same, by omega, nd, fun zs p' pm so hp' => ?_⟩⟩
  obtain ⟨r2, s2⟩ := r1.Zoz hp (TxS P w p l)
  have sub : ∀ x, x ∈ zs → ∃ c, x = Cl.S [c] := fun x hx => by
   obtain ⟨c, _, e⟩ := (m x).mp (pm.mem_iff.mp hx)
   exact ⟨c, e⟩
  obtain ⟨ys, rfl⟩ : ∃ ys : List Nat, zs = ys.map fun c => Cl.S [c] := by
   clear pm so
   induction zs with
   | nil => exact ⟨[], rfl⟩
   | cons x t ih =>
    obtain ⟨c, e⟩ := sub x Qp
    obtain ⟨ys, e'⟩ := ih fun x hx => sub x (Qh _ hx)
    exact ⟨c :: ys, by rw [e, e']; rfl⟩
  have hs : ys.Pairwise (· ≤ ·) := by
   cases ys with
   | nil => exact List.Pairwise.nil
   | cons c y => exact Zer y c so
  have hn : ys.Nodup := Zf1.mp (pm.nodup_iff.mpr nd)
  have hlt : ys.Pairwise (· < ·) := (hs.and hn).imp fun {a b} h => Nat.lt_of_le_of_ne h.1 h.2
  have hm : ∀ c, c ∈ ys ↔ c ∈ z := fun c => by
   have e1 : Cl.S [c] ∈ (ys.map fun c => Cl.S [c]) ↔ Cl.S [c] ∈ l := pm.mem_iff
   rw [m (Cl.S [c])] at e1
   constructor
   ·intro h
    obtain ⟨d, hd, e⟩ := e1.mp (Qs.mpr ⟨c, h, rfl⟩)
    injection e with e
    injection e with e
    injection e with e
    rw [e]
    exact hd
   ·intro h
    obtain ⟨d, hd, e⟩ := Qs.mp (e1.mpr ⟨c, h, rfl⟩)
    injection e with e
    injection e with e
    injection e with e
    rw [← e]
    exact hd
  rw [← Zza]
  exact Zdz (c := ⟨_, _, _⟩) ((ok.step s1 r1).step s2 r2) (po.step (s1.trans s2)) hp' (Zq0 _) (q1 ys hlt hm)
def Zo5 : DR := fun xs M Q => ∃ d, xs = [d] ∧ ((∃ z, d = vS z ∧ z.length ≤ sizeLine ∧ Q (vL (sgn z)) M) ∨ ∃ ys ps, sqOf M d = some ys ∧ Zat ys = some ps ∧ Q (vL ps) M)
def Z3h : DR := fun xs M Q => ∃ d, xs = [d] ∧ ((∃ z, d = vS z ∧ z.length ≤ sizeLine ∧ Q (.cell M.length) (M ++ [some (.lst ((sgn z).map D.v))])) ∨ ∃ ys, sqOf M d = some ys ∧ Q (.cell M.length) (M ++ [some (.lst ys)]))
theorem Zo9 : SimR S (Zqn S.K) Zo5 := fun c M vs ds Q Qd ok r0 q po => by
 obtain ⟨d, rfl, h⟩ := q
 obtain ⟨v, rfl, r⟩ := ld1 r0
 rcases h with ⟨z, rfl, hz, q⟩ | ⟨ys, ps, hy, hp, q⟩
 ·cases (show v = sv z from r)
  exact ⟨hz, fun l hl => Zdz ok po hl (Zq0 z) q⟩
 ·obtain ⟨a, vs, rfl, h1, h2⟩ := Zr2 ok r hy
  exact ⟨vs, h1, fun l hl => Zdz ok po hl (Zbu h2 hp) q⟩
theorem Zw1 : SimR S (Zqn S.K) Z3h := fun c M vs ds Q Qd ok r0 q po => by
 obtain ⟨d, rfl, h⟩ := q
 obtain ⟨v, rfl, r⟩ := ld1 r0
 rcases h with ⟨z, rfl, hz, q⟩ | ⟨ys, hy, q⟩
 ·cases (show v = sv z from r)
  exact ⟨hz, fun l hl => Zl8 ok po hl (RpL.ds (Zq0 z)) q⟩
 ·obtain ⟨a, vs, rfl, h1, h2⟩ := Zr2 ok r hy
  exact ⟨vs, h1, fun l hl => Zl8 ok po hl h2 q⟩
def Z0l : List V → Hp → VK → Prop := fun xs H Q => (∃ i, xs = [.int i] ∧ Q (.int i) H) ∨ ∃ k, xs = [.bl k] ∧ Q (.int (if k then 1 else 0)) H
theorem Z2w {X : Cx} : CallR X (.type "int") Z0l := call_int1
def uInt : DR := fun xs M Q => (∃ i, xs = [vI i] ∧ Q (vI i) M) ∨ ∃ k, xs = [vB k] ∧ Q (vI (if k then 1 else 0)) M
theorem Ztf : SimR S Z0l uInt := fun c M vs ds Q Qd ok r0 q po => by
 rcases q with ⟨i, rfl, q⟩ | ⟨k, rfl, q⟩ <;> obtain ⟨v, rfl, r⟩ := ld1 r0
 ·cases (show v = .int i from r)
  exact Or.inl ⟨i, rfl, po_v ok po (d := vI i) rfl q⟩
 ·cases (show v = .bl k from r)
  exact Or.inr ⟨k, rfl, po_v ok po (d := vI (if k then 1 else 0)) rfl q⟩
def Z0j : List V → Hp → VK → Prop := fun xs H Q => ∃ i, xs = [.int i] ∧ i.natAbs.log2 < 1920 ∧ Q (.str (toString i)) H
theorem Z2u {X : Cx} : CallR X (.type "str") Z0j := call_str_int
def figs (i : Int) : List Nat := ((toString i : Str)).cps.toList
def uStr : DR := fun xs M Q => ∃ i, xs = [vI i] ∧ i.natAbs.log2 < 1920 ∧ Q (vS (figs i)) M
theorem Ztb : SimR S Z0j uStr := fun c M vs ds Q Qd ok r0 q po => by
 obtain ⟨i, rfl, h, q⟩ := q
 obtain ⟨v, rfl, r⟩ := ld1 r0
 cases (show v = .int i from r)
 exact ⟨i, rfl, h, po_v ok po (d := vS (figs i)) rfl q⟩
def Z64 : DR := fun xs M Q => ∃ k, xs = [vB k] ∧ Q (vB k) M
def truD (M : Mem) : D → Option Bool
 | .v .non => some false
 | .v (.bl b) => some b
 | .v (.int i) => some (i != 0)
 | .v (.str z) => some (!z.isEmpty)
 | .v (.lst xs) => some (!xs.isEmpty)
 | .v (.tup xs) => some (!xs.isEmpty)
 | .cell i => (match M[i]? with
  | some (some (.lst ds)) => some (!ds.isEmpty)
  | some (some (.dct ds)) => some (!ds.isEmpty)
  | _ => none)
 | _ => none
theorem Zec {α β : Type} {R : α → β → Prop} {xs : List α} {vs : List β} (r : A2 R xs vs) : vs.isEmpty = xs.isEmpty := by cases r <;> rfl
theorem Z3j {c : CS} {M : Mem} (ok : S.Ok c M) {d : D} {v : V} {k : Bool} (r : S.Vd c d v) (h : truD M d = some k) (hz : ∀ z, d = vS z → z.length ≤ sizeLine) : TruV S.K v c.H k := by
 cases d with
 | v x =>
  cases x with
  | non => cases (show v = _ from r); cases h; rfl
  | bl b => cases (show v = _ from r); cases h; rfl
  | int i => cases (show v = _ from r); cases h; rfl
  | str z =>
   cases (show v = _ from r); cases h
   refine ⟨hz z rfl, ?_⟩
   cases z with
   | nil => rfl
   | cons a t =>
    show true = (((t.length + 1 : Nat) : Int) != 0)
    rw [Hm]
    simp
    omega
  | lst xs =>
   obtain ⟨a, vs, rfl, h1, h2⟩ := r
   cases h
   exact Or.inl ⟨vs, Zen (ok.rl.same _ _ h1), by rw [Zec h2.a2]⟩
  | tup xs =>
   obtain ⟨a, vs, rfl, h1, h2⟩ := r
   cases h
   exact Or.inr (Or.inl ⟨vs, Same.seqT ok.rl.same h1, by rw [Zec h2.a2]⟩)
  | _ => cases h
 | cell i =>
  obtain ⟨a, e, rfl⟩ := r
  unfold truD at h
  dsimp only at h
  split at h
  ·rename_i xs m
   cases h
   obtain ⟨h1, o, h2, vs, rfl, h3⟩ := ok.rl.live i a _ e m
   exact Or.inl ⟨vs, Zen h2, by rw [Zec h3]⟩
  ·rename_i xs m
   cases h
   obtain ⟨h1, o, h2, vs, rfl, h3⟩ := ok.rl.live i a _ e m
   exact Or.inr (Or.inr ⟨vs, h2, by rw [Zec h3]⟩)
  ·cases h
 | exn _ => cases h
def dTru (a : DE) : DT := fun ds M Q => a ds M fun x M1 => ∃ k, truD M1 x = some k ∧ (∀ z, x = vS z → z.length ≤ sizeLine) ∧ Q k M1
theorem Zld {ta : TE} {da : DE} (ha : SimE S ta da) : SimT S (tTru S.K ta) (dTru da) := fun c M σ ds Q Qd ok rs q po =>
 ha c M σ ds _ _ ok rs q fun c1 M1 v1 d1 s1 r1 p1 ⟨k, e, hz, q1⟩ => ⟨k, Z3j (ok.step s1 r1) p1 e hz, po c1 M1 k s1 r1 q1⟩
def tyS : D → Mem → Prop := fun d _ => ∃ z, d = vS z
def tyL : D → Mem → Prop := fun d M => ∃ ds, lsOf M d = some ds
def dBm (ty : D → Mem → Prop) (r : DM) (o : DE) (a : DA) : DE := fun ds M Q => o ds M fun x M1 => ty x M1 ∧ a ds M1 fun xs M2 => r x xs M2 Q
theorem ty_S {c : CS} {M : Mem} (ok : S.Ok c M) {d : D} {v : V} (r : S.Vd c d v) (h : tyS d M) : tyV S.K "str" v c.H := by
 obtain ⟨z, rfl⟩ := h
 cases (show v = sv z from r)
 rfl
theorem ty_L {c : CS} {M : Mem} (ok : S.Ok c M) {d : D} {v : V} (r : S.Vd c d v) (h : tyL d M) : tyV S.K "list" v c.H := by
 obtain ⟨ds, h⟩ := h
 obtain ⟨a, vs, rfl, h1, h2⟩ := Zse ok r h
 exact Or.inl ⟨rfl, vs, Zen h1⟩
theorem Zy8 {T : String} {ty : D → Mem → Prop} (hty : ∀ c M d v, S.Ok c M → S.Vd c d v → ty d M → tyV S.K T v c.H) {r : V → List V → Hp → VK → Prop} {d : DM} {te : TE} {de : DE} {ta : TA} {da : DA} (hr : SimM S r d) (he : SimE S te de) (ha : SimA S ta da) : SimE S (tBM S.K T r te ta) (dBm ty d de da) := fun c M σ ds Q Qd ok rs q po =>
 he c M σ ds _ _ ok rs q fun c1 M1 v1 d1 s1 r1 p1 ⟨t1, q1⟩ => ⟨hty c1 M1 d1 v1 (ok.step s1 r1) p1 t1, ha c1 M1 σ ds _ _ (ok.step s1 r1) (rs.step s1) q1 fun c2 M2 v2 d2 s2 r2 p2 q2 =>
  hr c2 M2 v1 d1 v2 d2 _ _ ((ok.step s1 r1).step s2 r2) (Sc.Vd.step p1 s2) p2 q2 (po.step (s1.trans s2))⟩
theorem Zph {r : V → List V → Hp → VK → Prop} {d : DM} {te : TE} {de : DE} {ta : TA} {da : DA} (hr : SimM S r d) (he : SimE S te de) (ha : SimA S ta da) : SimE S (tBM S.K "str" r te ta) (dBm tyS d de da) := Zy8 (fun _ _ _ _ ok r h => ty_S ok r h) hr he ha
theorem Zpi {r : V → List V → Hp → VK → Prop} {d : DM} {te : TE} {de : DE} {ta : TA} {da : DA} (hr : SimM S r d) (he : SimE S te de) (ha : SimA S ta da) : SimE S (tBM S.K "list" r te ta) (dBm tyL d de da) := Zy8 (fun _ _ _ _ ok r h => ty_L ok r h) hr he ha
def uApp : DM := fun x xs M Q => ∃ k ds d, x = .cell k ∧ xs = [d] ∧ M[k]? = some (some (.lst ds)) ∧ ds.length < sizeLine ∧ Q (.v .non) (M.set k (some (.lst (ds ++ [d]))))
theorem Ztn : SimM S zApp uApp := fun c M x dx vs ds Q Qd ok rx rv0 q po => by
 obtain ⟨k, es, d, rfl, rfl, m, hl, q⟩ := q
 obtain ⟨v, rfl, rv⟩ := ld1 rv0
 obtain ⟨a, e, rfl⟩ := rx
 obtain ⟨h1, o, h2, ws, rfl, h3⟩ := ok.rl.live k a _ e m
 obtain ⟨r2, s2⟩ := ok.rl.setc e m (y := .lst (es ++ [d])) (o := .lst (ws ++ [v])) ⟨_, rfl, h3.append (.cons rv .nil)⟩
 exact ⟨ws, h2, by rw [← h3.len]; exact hl, po ⟨_, _, _⟩ _ _ (.v .non) s2 r2 rfl q⟩
def Zgy : DM := fun x xs M Q => ∃ a d ys, x = vS a ∧ xs = [d] ∧ sqOf M d = some ((ys.map PV.str).map D.v) ∧ (ys.map List.length).sum + ys.length * a.length ≤ 16777216 ∧ Q (vS (glue a ys)) M
theorem Zyt {c : CS} : ∀ {ys : List (List Nat)} {vs : List V}, S.Ld c ((ys.map PV.str).map D.v) vs → vs = ys.map sv
 | [], _, r => by cases r; rfl
 | y :: ys, _, r => by
  cases r with
  | cons r t =>
   rw [Zyt t]
   cases (show _ = sv y from r)
   rfl
theorem Zpa : SimM S (Zwt S.K) Zgy := fun c M x dx vs ds Q Qd ok rx rv0 q po => by
 obtain ⟨a, d, ys, rfl, rfl, hs, hl, q⟩ := q
 obtain ⟨v, rfl, rv⟩ := ld1 rv0
 cases (show x = sv a from rx)
 obtain ⟨p, ws, rfl, h1, h2⟩ := Zr2 ok rv hs
 rw [Zyt h2] at h1
 exact ⟨ys, h1, hl, po_v ok po (d := vS _) rfl q⟩
end
end Cl
namespace Cl
open PySem PySem.Spec PyProof.Rows L2 He ClX
open StX (CallO callO_with)
def spD (K : PySem.W.Frag) (cs : List Cn) (g : DSp) : Sp := fun vs H Q E => ∃ (c : CS) (M : Mem) (ds : List D) (Qd : DQ) (Ed : DX), c.H = H ∧ Rel K cs c M ∧ A2 (RpD K cs c.F c.ρ) ds vs ∧ g ds M Qd Ed ∧
 (∀ c' M' v d, Step c M c' M' → Rel K cs c' M' → RpD K cs c'.F c'.ρ d v → Qd d M' → Q v c'.H) ∧ (∀ c' M' cls d e, Step c M c' M' → Rel K cs c' M' → RpX K cs c' e cls d → Ed e M' → E cls d c'.H)
def Zae (n : Nat) (ds : List D) : DSt := ds.map some ++ List.replicate (n - ds.length) none
theorem Ze8 {K : PySem.W.Frag} {cs : List Cn} {c : CS} {ds : List D} {vs : List V} {N : List Str} (r : A2 (RpD K cs c.F c.ρ) ds vs) : RpS K cs c (Zae N.length ds) (L2.start N vs) := by
 have hl := r.len
 refine ⟨by unfold Zae L2.start; simp [hl], fun i d e => ?_⟩
 unfold Zae at e
 unfold L2.start
 by_cases hi : i < ds.length
 ·rw [Q0 (by simpa using hi), Ql] at e
  cases q : ds[i]? with
  | none => rw [q] at e; cases e
  | some d' =>
   rw [q] at e
   cases e
   obtain ⟨v, h1, h2⟩ := r.get q
   exact ⟨v, by rw [Q0 (by rw [Qb, ← hl]; exact hi), Ql, h1]; rfl, h2⟩
 ·rw [Ho (by simpa using hi)] at e
  have := Qr e
  rw [List.mem_replicate] at this
  exact absurd this.2 (by simp)
def Zad (M : Mem) (Q : DQ) : DQ := fun d M' => (∀ i, d = .cell i → i < M.length) ∧ Exit M M' ∧ Q d (M'.take M.length)
def Zbf (M : Mem) (Q : DX) : DX := fun e M' => Exit M M' ∧ Q e (M'.take M.length)
theorem Zda {K : PySem.W.Frag} {cs : List Cn} {g : DSp} {N : List Str} {t : XK → TS} {d : DX → DS}
  (sim : ∀ (S : Sc) (E : XK) (Ed : DX), S.K = K → S.cs = cs → PoX S S.c0 S.M0 Ed E → SimS S (t E) (d Ed))
  (ref : ∀ ds M Q E, g ds M Q E → d E { nx := fun _ M' => Q (.v .non) M', rt := Q } (Zae N.length ds) M)
  (vs : List V) (H : Hp) (Q : VK) (E : XK) (h : spD K cs g vs H Q E) : t E { nx := fun _ H' => Q .non H', rt := Q } (L2.start N vs) H := by
 obtain ⟨c, M, ds, Qd, Ed, rfl, rl, ra, hg, hq, he⟩ := h
 refine sim ⟨K, cs, c, M⟩ E Ed rfl rfl he c M (L2.start N vs) (Zae N.length ds) _ { nx := fun _ M' => Qd (.v .non) M', rt := Qd } ⟨Step.refl _ _, rl⟩ (Ze8 ra) (ref ds M Qd Ed hg) ⟨fun c' M' σ' ds' s r _ q => hq c' M' .non (.v .non) s r rfl q, fun c' M' v d s r p q => hq c' M' v d s r p q, fun _ _ _ _ _ _ _ q => q.elim, fun _ _ _ _ _ _ _ q => q.elim⟩
theorem Zq3 {K : PySem.W.Frag} {cs : List Cn} {g : DSp} {N : List Str} {t : XK → TS} {d : DX → DS}
  (sim : ∀ (S : Sc) (E : XK) (Ed : DX), S.K = K → S.cs = cs → PoX S S.c0 S.M0 Ed E → SimS S (t E) (d Ed))
  (ref : ∀ ds M Q E, g ds M Q E → d (Zbf M E) { nx := fun _ M' => Zad M Q (.v .non) M', rt := Zad M Q } (Zae N.length ds) M)
  (vs : List V) (H : Hp) (Q : VK) (E : XK) (h : spD K cs g vs H Q E) : t E { nx := fun _ H' => Q .non H', rt := Q } (L2.start N vs) H := by
 obtain ⟨c, M, ds, Qd, Ed, rfl, rl, ra, hg, hq, he⟩ := h
 have hq' : ∀ c' M' v d, Step c M c' M' → Rel K cs c' M' → RpD K cs c'.F c'.ρ d v → Zad M Qd d M' → Q v c'.H := fun c' M' v d s r p ⟨q1, q2, q3⟩ => by
  obtain ⟨r2, s2, e2⟩ := rl.cut r s q2
  exact hq ⟨c'.F, c'.ρ.take M.length, c'.H⟩ _ v d s2 r2 (p.low q1) q3
 have he' : ∀ c' M' cls d e, Step c M c' M' → Rel K cs c' M' → RpX K cs c' e cls d → Zbf M Ed e M' → E cls d c'.H := fun c' M' cls d e s r p ⟨q2, q3⟩ => by
  obtain ⟨r2, s2, e2⟩ := rl.cut r s q2
  exact he ⟨c'.F, c'.ρ.take M.length, c'.H⟩ _ cls d e s2 r2 p q3
 refine sim ⟨K, cs, c, M⟩ E (Zbf M Ed) rfl rfl he' c M (L2.start N vs) (Zae N.length ds) _ { nx := fun _ M' => Zad M Qd (.v .non) M', rt := Zad M Qd } ⟨Step.refl _ _, rl⟩ (Ze8 ra) (ref ds M Qd Ed hg) ⟨fun c' M' σ' ds' s r _ q => hq' c' M' .non (.v .non) s r rfl q, fun c' M' v d s r p q => hq' c' M' v d s r p q, fun _ _ _ _ _ _ _ q => q.elim, fun _ _ _ _ _ _ _ q => q.elim⟩
theorem Zdi {K : PySem.W.Frag} {cs : List Cn} {g : DSp} {n : Nat} (h : ∀ ds M Q E, g ds M Q E → ds.length = n) (vs : List V) (H : Hp) (Q : VK) (E : XK) (q : spD K cs g vs H Q E) : vs.length = n := by
 obtain ⟨c, M, ds, Qd, Ed, rfl, rl, ra, hg, hq, he⟩ := q
 rw [← ra.len]
 exact h _ _ _ _ hg
section
variable {S : Sc}
variable {te ta tb : TE} {da db de : DE} {tt tu : TT} {dt du : DT} {tr : TA} {dr : DA} {ts us : TS} {dss dus : DS}
def noX : DX := fun _ _ => False
theorem Zl7 {c : CS} {M : Mem} {E : XK} : PoX S c M noX E := fun _ _ _ _ _ _ _ _ q => q.elim
theorem Zkh {c : CS} {M : Mem} {g : DSp} {vs : List V} {ds : List D} {Q : VK} {Qd : DQ} {E : XK} {Ed : DX} (ok : S.Ok c M) (r : S.Ld c ds vs) (h : g ds M Qd Ed) (po : PoE S c M Qd Q) (px : PoX S S.c0 S.M0 Ed E) : spD S.K S.cs g vs c.H Q E :=
 ⟨c, M, ds, Qd, Ed, rfl, ok.rl, r, h, po, fun c' M' cls d e s r p q => px c' M' cls d e (ok.st.trans s) r p q⟩
def Zd6 (g : DSp) (Ed : DX) (a : DA) : DE := fun ds M Q => a ds M fun xs M1 => g xs M1 Q Ed
theorem Zqy {g : DSp} {E : XK} {Ed : DX} (px : PoX S S.c0 S.M0 Ed E) (ha : SimA S tr dr) : SimE S (tCall (spD S.K S.cs g) [] E tr) (Zd6 g Ed dr) := fun c M σ ds Q Qd ok rs q po =>
 ha c M σ ds _ _ ok rs q fun c1 M1 v1 d1 s1 r1 p1 q1 => by
  rw [Qv]
  exact Zkh (ok.step s1 r1) p1 q1 (po.step s1) px
structure CsOk (K : PySem.W.Frag) (cs : List Cn) : Prop where
 cl : ∀ c ∈ cs, Cls K (ga K c.str)
 no : ∀ c ∈ cs, ∀ f ∈ c.flds, NoAttr K (ga K c.str) f.str
theorem Zvn {g f : Fd} {fs : List Fd} (h : ¬ g = f) : (g :: fs).idxOf f = fs.idxOf f + 1 := by
 rw [List.idxOf_cons, beq_eq_false_iff_ne.mpr h]
 rfl
theorem Zfy : ∀ (fs : List Fd) (vs : List V) (f : Fd) (v : V), vs[fs.idxOf f]? = some v → fs.idxOf f < fs.length → ((fs.map Fd.str).zip vs).lookup f.str = some v
 | [], _, _, _, _, h => by simp at h
 | g :: fs, [], f, v, e, _ => by simp at e
 | g :: fs, u :: vs, f, v, e, h => by
  show List.lookup f.str ((g.str, u) :: (fs.map Fd.str).zip vs) = some v
  by_cases hg : g = f
  ·subst hg
   rw [Lc] at e
   rw [Q7, beq_self_eq_true]
   simpa using e
  ·have hb : (f.str == g.str) = false := beq_eq_false_iff_ne.mpr fun q => hg (Fd.inj q).symm
   rw [Q7, hb]
   rw [Zvn hg] at e h
   exact Zfy fs vs f v (by simpa using e) (by simpa using h)
theorem Zql : ∀ (fs : List Fd) (vs : List V) (m : Str), (∀ f ∈ fs, f.str ≠ m) → ((fs.map Fd.str).zip vs).lookup m = none
 | [], _, _, _ => rfl
 | g :: fs, [], m, _ => rfl
 | g :: fs, u :: vs, m, h => by
  show List.lookup m ((g.str, u) :: (fs.map Fd.str).zip vs) = none
  have hb : (m == g.str) = false := beq_eq_false_iff_ne.mpr fun q => h g Qp q.symm
  rw [Q7, hb]
  exact Zql fs vs m fun f hf => h f (Qh _ hf)
def obOf (M : Mem) : D → Option (Cn × List D)
 | .v (.obj c xs) => some (c, xs.map D.v)
 | .cell i => (match M[i]? with
  | some (some (.obj c ds)) => some (c, ds)
  | _ => none)
 | _ => none
theorem Zn3 {c : CS} {M : Mem} (ok : S.Ok c M) {d : D} {v : V} {k : Cn} {ds : List D} (r : S.Vd c d v) (h : obOf M d = some (k, ds)) : ∃ a dx vs, v = .ref a ∧ c.H a = some (.ins (ga S.K k.str) dx (fz k vs)) ∧ k ∈ S.cs ∧ ds.length ≤ k.flds.length ∧ S.Ld c ds vs := by
 cases d with
 | v x =>
  cases x with
  | obj k' xs =>
   cases h
   obtain ⟨a, dx, vs, e, h1, h2, h3, h4⟩ := r
   exact ⟨a, dx, vs, e, ok.rl.same _ _ h1, h2, by simpa using h3, RpL.ds h4⟩
  | _ => cases h
 | cell i =>
  unfold obOf at h
  dsimp only at h
  split at h
  ·rename_i k' xs m
   cases h
   obtain ⟨a, e, rfl⟩ := r
   obtain ⟨h1, o, h2, dx, vs, rfl, h3, h4, h5⟩ := ok.rl.live i a _ e m
   exact ⟨a, dx, vs, rfl, h2, h3, h4, h5⟩
  ·cases h
 | exn _ => cases h
def dFld (a : DE) (f : Fd) : DE := fun ds M Q => a ds M fun x M1 => ∃ k ys y, obOf M1 x = some (k, ys) ∧ ys[k.ix f]? = some y ∧ Q y M1
theorem Zpf {f : Fd} (hc : CsOk S.K S.cs) (ha : SimE S ta da) : SimE S (tFld S.K ta f.str) (dFld da f) := fun c M σ ds Q Qd ok rs q po =>
 ha c M σ ds _ _ ok rs q fun c1 M1 v1 d1 s1 r1 p1 ⟨k, ys, y, h, hy, q1⟩ => by
  obtain ⟨a, dx, vs, rfl, h1, h2, h3, h4⟩ := Zn3 (ok.step s1 r1) p1 h
  obtain ⟨u, g1, g2⟩ := h4.get hy
  have hl : k.ix f < k.flds.length := Nat.lt_of_lt_of_le (Qa.mp hy).1 h3
  exact ⟨a, _, dx, _, u, rfl, h1, hc.cl k h2, hc.no k h2 f (Lp.mp hl), Zfy _ _ _ _ g1 hl, po_v (ok.step s1 r1) (po.step s1) g2 q1⟩
theorem Zsr : ∀ (fs : List Fd) (vs : List V) (f : Fd) (v : V), fs.Nodup → fs.idxOf f < fs.length → fs.idxOf f ≤ vs.length → vs.length ≤ fs.length →
  putF f.str v ((fs.map Fd.str).zip vs) = (fs.map Fd.str).zip (if fs.idxOf f < vs.length then vs.set (fs.idxOf f) v else vs ++ [v])
 | [], _, _, _, _, h, _, _ => by simp at h
 | g :: fs, [], f, v, nd, h, hi, _ => by
  by_cases hg : g = f
  ·subst hg
   rw [Lc]
   show putF g.str v [] = (g.str :: fs.map Fd.str).zip [v]
   rw [Lj, List.zip_nil_right]
   rfl
  ·rw [Zvn hg] at hi
   simp at hi
 | g :: fs, u :: vs, f, v, nd, h, hi, hl => by
  show putF f.str v ((g.str, u) :: (fs.map Fd.str).zip vs) = _
  rw [show putF f.str v ((g.str, u) :: (fs.map Fd.str).zip vs) = (if g.str = f.str then (g.str, v) :: (fs.map Fd.str).zip vs else (g.str, u) :: putF f.str v ((fs.map Fd.str).zip vs)) from rfl]
  by_cases hg : g = f
  ·subst hg
   rw [if_pos rfl, Lc, if_pos (by simp)]
   rfl
  ·rw [if_neg fun q => hg (Fd.inj q)]
   rw [Zvn hg] at h hi ⊢
   rw [Zsr fs vs f v (Hd.mp nd).2 (by simpa using h) (by simpa using hi) (by simpa using hl)]
   by_cases hlt : fs.idxOf f < vs.length
   ·rw [if_pos hlt, if_pos (by simpa using hlt)]
    rfl
   ·rw [if_neg hlt, if_neg (by simpa using hlt)]
    rfl
def setF (ds : List D) (i : Nat) (d : D) : List D := if i < ds.length then ds.set i d else ds ++ [d]
def dStF (o a : DE) (f : Fd) : DS := fun E ds M => a ds M fun y M1 => o ds M1 fun x M2 => ∃ i k ys, x = .cell i ∧ M2[i]? = some (some (.obj k ys)) ∧ k.ix f ≤ ys.length ∧ k.ix f < k.flds.length ∧ E.nx ds (M2.set i (some (.obj k (setF ys (k.ix f) y))))
theorem Z2m (k : Cn) : k.flds.length < 100 := by cases k <;> decide
theorem Z6d (k : Cn) (vs : List V) : (fz k vs).length < 1000 := by
 unfold fz
 rw [List.length_zip, Qb]
 have := Z2m k
 omega
theorem Zbm {f : Fd} (hc : CsOk S.K S.cs) (ho : SimE S tb db) (ha : SimE S ta da) : SimS S (sFld S.K tb ta f.str) (dStF db da f) := fun c M σ ds E Ed ok rs q po =>
 ha c M σ ds _ _ ok rs q fun c1 M1 v1 d1 s1 r1 p1 q1 => ho c1 M1 σ ds _ _ (ok.step s1 r1) (rs.step s1) q1 fun c2 M2 v2 d2 s2 r2 p2 ⟨i, k, ys, e, m, hi, hf, q2⟩ => by
  subst e
  obtain ⟨a, e, rfl⟩ := p2
  obtain ⟨h1, o, h2, dx, vs, rfl, h3, h4, h5⟩ := r2.live i a _ e m
  have hl := h5.len
  have eq := Zsr k.flds vs f v1 k.nodup hf (by rw [← hl]; exact hi) (by rw [← hl]; exact h4)
  have pd : RpD S.K S.cs c2.F c2.ρ d1 v1 := Sc.Vd.step p1 s2
  obtain ⟨r3, s3⟩ := r2.setc e m (y := .obj k (setF ys (k.ix f) d1)) (o := .ins (ga S.K k.str) dx (putF f.str v1 (fz k vs))) (by
   refine ⟨dx, _, by unfold fz; rw [eq], h3, ?_, ?_⟩
   ·unfold setF
    split
    ·simpa using h4
    ·rename_i hn
     have : k.ix f = ys.length := by omega
     simp
     omega
   ·unfold setF
    show A2 _ _ (if k.ix f < vs.length then vs.set (k.ix f) v1 else vs ++ [v1])
    rw [← hl]
    split
    ·exact h5.set pd _
    ·exact h5.append (.cons pd .nil))
  exact ⟨a, _, dx, _, rfl, h2, hc.cl k h3, hc.no k h3 f (Lp.mp hf), Z6d k vs, po.nx ⟨_, _, _⟩ _ σ ds ((s1.trans s2).trans s3) r3 (((rs.step s1).step s2).step s3) q2⟩
def Zdt (okC : Addr → Sp → Prop) (m : Str) (dvs : List V) (E : XK) (ta : TE) (t : TA) : TE := fun σ H Q => ta σ H fun x H1 => ∃ a C dx fs sp, x = .ref a ∧ H1 a = some (.ins C dx fs) ∧ okC C sp ∧ fs.lookup m = none ∧ t σ H1 fun vs H2 => sp (x :: (vs ++ dvs)) H2 Q E
structure Zjm (P : Program) (w : World) (K : PySem.W.Frag) (mg : Str → Option Value) (base : Heap) (CX : CXT) (k : Nat) (m : Str) (C : Addr) (sp : Sp) (dvs : List V) : Prop where
 cl : Cls K C
 ex : ∃ f fd ps ds, Meth K C m f ∧ FnOk P w K mg base CX k f fd ps sp ∧ Binds K fd ps ds ∧ Vals dvs ds
section
variable {X : Cx} {CX : CXT} {k : Nat} {okC : Addr → Sp → Prop} {dvs : List V} {E : XK} {m : Str} {pos apos : Pos} {e o : Expr} {es : List Expr} {ta : TE} {t : TA}
theorem Zea {pl : Sem Bool} (he : PE X o ta) (hk : ∀ C sp, okC C sp → Zjm X.prog X.w X.K X.mg X.base CX k m C sp dvs) (hr : Room k X.A) (hx : Passes CX X E) (ha : PA X (e :: es) t)
  (hst : starEach (e :: es) X.env = (false, eval e X.env) :: starEach es X.env := by rfl) (hpl : (backTo pos (starEach es X.env)).any (·.1) = false := by rfl)
  (ht : eval (.Call (.Attribute o m apos) (e :: es) [] pos) X.env = (do
   let ov ← eval o X.env
   standAt apos.atName
   let (f, first) ← holding [ov] (getMethod ov m pl)
   callWith pos f first (backTo pos (starEach (e :: es) X.env)) (backToKw pos (keywordEach [] X.env))) := by rfl) :
  PE X (.Call (.Attribute o m apos) (e :: es) [] pos) (Zdt okC m dvs E ta t) := by
 refine ⟨fun pins s σ H Q I h => ?_⟩
 refine PySem.W.methodCall_KW (pl := pl) (thn (he.run pins s σ H _ I h) fun u s1 ⟨x, H1, I1, rx, a, C, dx, fs, sp, ex, ea, hc, l, q⟩ => ?_) ht
 obtain ⟨c, f, fd, ps, ds, hm, F, hb, hd⟩ := hk C sp hc
 subst ex
 obtain rfl : u = Value.ref a := rx
 refine getmeth_ok I1 ea c hm l ?_
 refine PySem.W.callWith_K (first := [.ref a]) (h₀ := X.base) I.ok.mod.kin hm.kp (thn (ha.run pos pins s1 σ H1 _ I1 q) fun us s2 ⟨vs, H2, I2, r, q2⟩ => ⟨I2.kIn, ?_⟩) hst hpl
 exact run_fn (us := .ref a :: us) (vs := .ref a :: vs) F hr hb hd hx I2 (.cons rfl r) q2
theorem Zue {pl : Sem Bool} (he : PE X o ta) (hk : ∀ C sp, okC C sp → Zjm X.prog X.w X.K X.mg X.base CX k m C sp dvs) (hr : Room k X.A) (hx : Passes CX X E)
  (ht : eval (.Call (.Attribute o m apos) [] [] pos) X.env = (do
   let ov ← eval o X.env
   standAt apos.atName
   let (f, first) ← holding [ov] (getMethod ov m pl)
   callWith pos f first (backTo pos (starEach [] X.env)) (backToKw pos (keywordEach [] X.env))) := by rfl) :
  PE X (.Call (.Attribute o m apos) [] [] pos) (Zdt okC m dvs E ta tNil) := by
 refine ⟨fun pins s σ H Q I h => ?_⟩
 refine PySem.W.methodCall_KW (pl := pl) (thn (he.run pins s σ H _ I h) fun u s1 ⟨x, H1, I1, rx, a, C, dx, fs, sp, ex, ea, hc, l, q⟩ => ?_) ht
 obtain ⟨c, f, fd, ps, ds, hm, F, hb, hd⟩ := hk C sp hc
 subst ex
 obtain rfl : u = Value.ref a := rx
 refine getmeth_ok I1 ea c hm l ?_
 exact PySem.W.callWith_K0 (first := [.ref a]) I1.kIn hm.kp (run_fn (us := [.ref a]) (vs := [.ref a]) F hr hb hd hx I1 (.cons rfl .nil) q)
end
def okM (K : PySem.W.Frag) (cs : List Cn) (g : Cn → Option DSp) (C : Addr) (sp : Sp) : Prop := ∃ k ∈ cs, C = ga K k.str ∧ ∃ q, g k = some q ∧ sp = spD K cs q
def Zd5 (g : Cn → Option DSp) (dv : List PV) (Ed : DX) (o : DE) (a : DA) : DE := fun ds M Q => o ds M fun x M1 => ∃ k ys sp, obOf M1 x = some (k, ys) ∧ g k = some sp ∧ a ds M1 fun xs M2 => sp (x :: (xs ++ dv.map D.v)) M2 Q Ed
theorem Zdj {m : Str} {g : Cn → Option DSp} {E : XK} {Ed : DX} {dv : List PV} {vv : List V} (hd : ∀ F, RpL S.K S.cs F dv vv) (px : PoX S S.c0 S.M0 Ed E) (hm : ∀ k, (g k).isSome = true → ∀ f ∈ k.flds, f.str ≠ m) (ho : SimE S tb db) (ha : SimA S tr dr) :
  SimE S (Zdt (okM S.K S.cs g) m vv E tb tr) (Zd5 g dv Ed db dr) := fun c M σ ds Q Qd ok rs q po =>
 ho c M σ ds _ _ ok rs q fun c1 M1 v1 d1 s1 r1 p1 ⟨k, ys, sp, h, hg, q1⟩ => by
  obtain ⟨a, dx, vs, e, h1, h2, h3, h4⟩ := Zn3 (ok.step s1 r1) p1 h
  refine ⟨a, _, dx, _, _, e, h1, ⟨k, h2, rfl, sp, hg, rfl⟩, Zql _ _ _ (hm k (by rw [hg]; rfl)), ha c1 M1 σ ds _ _ (ok.step s1 r1) (rs.step s1) q1 fun c2 M2 v2 d2 s2 r2 p2 q2 => ?_⟩
  exact Zkh ((ok.step s1 r1).step s2 r2) (.cons (Sc.Vd.step p1 s2) (p2.append (RpL.ds (hd c2.F)))) q2 (po.step (s1.trans s2)) px
def Z6o (g : Cn → Option DSp) (Ed : DX) (o : DE) (a : DA) : DE := fun ds M Q => o ds M fun x M1 => (∃ k ys, obOf M1 x = some (k, ys)) ∧ a ds M1 fun xs M2 => ∃ k ys sp, obOf M2 x = some (k, ys) ∧ g k = some sp ∧ sp (x :: xs) M2 Q Ed
def dSup (ok : Cn → Bool) (g : DSp) (Ed : DX) (a : DA) : DE := fun ds M Q => ∃ x k ys, ds[0]? = some (some x) ∧ obOf M x = some (k, ys) ∧ ok k = true ∧ a ds M fun xs M1 => g (x :: xs) M1 Q Ed
theorem Zh6 {m : Str} {Dd f : Addr} {okc : Cn → Bool} {g : DSp} {E : XK} {Ed : DX} (hs : ∀ k ∈ S.cs, okc k = true → Sup S.K (ga S.K k.str) Dd m f) (px : PoX S S.c0 S.M0 Ed E) (ha : SimA S tr dr) :
  SimE S (tSup S.K Dd m f (fun vs => spD S.K S.cs g (vs ++ [])) E tr) (dSup okc g Ed dr) := fun c M σ ds Q Qd ok rs ⟨x, k, ys, h0, h, hk, q⟩ po => by
 obtain ⟨v, hv, rv⟩ := rs.2 0 x h0
 obtain ⟨a, dx, vs, rfl, h1, h2, h3, h4⟩ := Zn3 ok rv h
 refine ⟨a, _, dx, _, hv, h1, hs k h2 hk, ha c M σ ds _ _ ok rs q fun c1 M1 v1 d1 s1 r1 p1 q1 => ?_⟩
 show spD S.K S.cs _ (V.ref a :: v1 ++ []) c1.H Q E
 rw [Qv]
 exact Zkh (ok.step s1 r1) (.cons (Sc.Vd.step rv s1) p1) q1 (po.step s1) px
def mkQ (k : Cn) (M : Mem) (Q : DQ) : DQ := fun d M2 => d = .v .non ∧ ∃ ys ps, M2[M.length]? = some (some (.obj k ys)) ∧ Zat ys = some ps ∧ Exit M (M2.set M.length none) ∧ Q (.v (.obj k ps)) ((M2.set M.length none).take M.length)
def Zjc (k : Cn) (g : DSp) (dv : List PV) (Ed : DX) (a : DA) : DE := fun ds M Q => a ds M fun xs M1 => g (.cell M1.length :: (xs ++ dv.map D.v)) (M1 ++ [some (.obj k [])]) (mkQ k M1 Q) (Zbf M1 Ed)
theorem Rel.newo {K : PySem.W.Frag} {cs : List Cn} {c : CS} {M : Mem} (r : Rel K cs c M) {k : Cn} (hk : k ∈ cs) {x dx : Addr} (hx : c.H x = none) (hd : c.H dx = none) (ne : dx ≠ x) :
  Rel K cs ⟨c.F, c.ρ ++ [x], upd (upd c.H dx (.own x)) x (.ins (ga K k.str) dx [])⟩ (M ++ [some (.obj k [])]) ∧ Step c M ⟨c.F, c.ρ ++ [x], upd (upd c.H dx (.own x)) x (.ins (ga K k.str) dx [])⟩ (M ++ [some (.obj k [])]) := by
 obtain ⟨r1, s1⟩ := r.Zoz hd (.own x)
 have hx' : upd c.H dx (.own x) x = none := by rw [upd_ne (Ne.symm ne)]; exact hx
 obtain ⟨r2, s2⟩ := r1.newc (p := x) hx' (x := .obj k []) (o := .ins (ga K k.str) dx []) ⟨dx, [], by unfold fz; rw [List.zip_nil_right], hk, Q4 _, .nil⟩
 exact ⟨r2, s1.trans s2⟩
theorem Zlg {k : Cn} {g : DSp} {dv : List PV} {vv : List V} {E : XK} {Ed : DX} (hk : k ∈ S.cs) (hd : ∀ F, RpL S.K S.cs F dv vv) (px : PoX S S.c0 S.M0 Ed E) (ha : SimA S tr dr) : SimE S (tMake (ga S.K k.str) (spD S.K S.cs g) vv E tr) (Zjc k g dv Ed dr) := fun c M σ ds Q Qd ok rs q po =>
 ha c M σ ds _ _ ok rs q fun c1 M1 v1 d1 s1 r1 p1 q1 => by
  intro x dx hx hdx ne
  obtain ⟨r2, s2⟩ := r1.newo hk hx hdx ne
  have ok1 := ok.step s1 r1
  have get : (c1.ρ ++ [x])[M1.length]? = some x := by rw [← r1.len]; simp
  refine ⟨⟨c1.F, c1.ρ ++ [x], upd (upd c1.H dx (.own x)) x (.ins (ga S.K k.str) dx [])⟩, M1 ++ [some (.obj k [])], .cell M1.length :: (d1 ++ dv.map D.v), _, _, rfl, r2, .cons ⟨x, get, rfl⟩ ((Sc.Ld.step p1 s2).append (RpL.ds (hd _))), q1, fun c3 M3 v3 d3 s3 r3 p3 ⟨e3, ys, ps, m3, hp, hex, q3⟩ => ?_, fun c3 M3 cls d e s3 r3 p3 ⟨hex, q3⟩ => ?_⟩
  ·subst e3
   cases (show v3 = .non from p3)
   refine ⟨rfl, ?_⟩
   have e3 : c3.ρ[M1.length]? = some x := Zey s3.pre get
   obtain ⟨o, h1, h2, h3, r4, s4⟩ := r3.freeze e3 m3
   obtain ⟨dx', vs', rfl, h5, h6, h7⟩ := h2
   obtain ⟨r5, s5, e5⟩ := r1.cut r4 (s2.trans (s3.trans s4)) hex
   refine po ⟨upd c3.F x (.ins (ga S.K k.str) dx' (fz k vs')), c3.ρ.take M1.length, c3.H⟩ _ (.ref x) (.v (.obj k ps)) (s1.trans s5) r5 ?_ q3
   refine ⟨x, dx', vs', rfl, upd_same, hk, ?_, RpL.same (Za3 h3) _ _ (Zbu h7 hp)⟩
   rw [Zdl hp] at h6
   simpa using h6
  ·obtain ⟨r5, s5, e5⟩ := r1.cut r3 (s2.trans s3) hex
   exact px ⟨c3.F, c3.ρ.take M1.length, c3.H⟩ _ cls d e (ok1.st.trans s5) r5 p3 q3
def frz (M : Mem) : D → Option (PV × Mem)
 | .v x => some (x, M)
 | .cell i => (match M[i]? with
  | some (some (.lst ds)) => (Zat ds).map fun xs => (.lst xs, M.set i none)
  | some (some (.obj k ds)) => (Zat ds).map fun xs => (.obj k xs, M.set i none)
  | _ => none)
 | .exn _ => none
def dFrz (a : DE) : DE := fun ds M Q => a ds M fun x M1 => ∃ y M2, frz M1 x = some (y, M2) ∧ Q (.v y) M2
theorem Zpe (ha : SimE S ta da) : SimE S ta (dFrz da) := fun c M σ ds Q Qd ok rs q po =>
 ha c M σ ds _ _ ok rs q fun c1 M1 v1 d1 s1 r1 p1 ⟨y, M2, h, q1⟩ => by
  cases d1 with
  | v x =>
   cases (show some (x, M1) = some (y, M2) from h)
   exact po c1 M1 v1 (.v y) s1 r1 p1 q1
  | cell i =>
   obtain ⟨a, e, rfl⟩ := p1
   unfold frz at h
   dsimp only at h
   split at h
   ·rename_i ds' m
    cases hp : Zat ds' with
    | none => rw [hp] at h; cases h
    | some xs =>
     rw [hp] at h
     cases h
     obtain ⟨o, h1, h2, h3, r4, s4⟩ := r1.freeze e m
     obtain ⟨vs', rfl, h7⟩ := h2
     exact po ⟨upd c1.F a (.lst vs'), c1.ρ, c1.H⟩ _ _ (.v (.lst xs)) (s1.trans s4) r4 ⟨a, vs', rfl, upd_same, RpL.same (Za3 h3) _ _ (Zbu h7 hp)⟩ q1
   ·rename_i k ds' m
    cases hp : Zat ds' with
    | none => rw [hp] at h; cases h
    | some xs =>
     rw [hp] at h
     cases h
     obtain ⟨o, h1, h2, h3, r4, s4⟩ := r1.freeze e m
     obtain ⟨dx', vs', rfl, h5, h6, h7⟩ := h2
     refine po ⟨upd c1.F a (.ins (ga S.K k.str) dx' (fz k vs')), c1.ρ, c1.H⟩ _ _ (.v (.obj k xs)) (s1.trans s4) r4 ⟨a, dx', vs', rfl, upd_same, h5, ?_, RpL.same (Za3 h3) _ _ (Zbu h7 hp)⟩ q1
     rw [Zdl hp] at h6
     simpa using h6
   ·cases h
  | exn _ => cases h
def hSub (o i : DE) : DG := fun y ds M Q => o ds M fun x M1 => i ds M1 fun j M2 => ∃ k es n l, x = .cell k ∧ j = vI n ∧ M2[k]? = some (some (.lst es)) ∧ ixN es.length n = some l ∧ Q ds (M2.set k (some (.lst (es.set l y))))
theorem Zlk (ho : SimE S ta da) (hi : SimE S tb db) : SimG S (gSub ta tb rSetL) (hSub da db) := fun c M σ ds y v Q Qd ok rs rv q po =>
 ho c M σ ds _ _ ok rs q fun c1 M1 v1 d1 s1 r1 p1 q1 => hi c1 M1 σ ds _ _ (ok.step s1 r1) (rs.step s1) q1 fun c2 M2 v2 d2 s2 r2 p2 ⟨k, es, n, l, e1, e2, m, hl, q2⟩ => by
  subst e1 e2
  obtain ⟨a, e, rfl⟩ := Sc.Vd.step p1 s2
  cases (show v2 = .int n from p2)
  obtain ⟨h1, o, h2, ws, rfl, h3⟩ := r2.live k a _ e m
  have rv2 : RpD S.K S.cs c2.F c2.ρ y v := Sc.Vd.step (Sc.Vd.step rv s1) s2
  obtain ⟨r3, s3⟩ := r2.setc e m (y := .lst (es.set l y)) (o := .lst (ws.set l v)) ⟨_, rfl, h3.set rv2 _⟩
  exact ⟨a, ws, n, l, rfl, rfl, h2, by rw [← h3.len]; exact hl, po ⟨_, _, _⟩ _ σ ds ((s1.trans s2).trans s3) r3 (((rs.step s1).step s2).step s3) q2⟩
def Zbl (ds : DSt) : List Nat → DSt
 | [] => ds
 | v :: vs => (Zbl ds vs).set v none
theorem Zhv {c : CS} {ds : DSt} {σ : L2.St} (r : S.St c ds σ) : ∀ vs : List Nat, S.St c (Zbl ds vs) (wipe σ vs)
 | [] => r
 | v :: vs => (Zhv r vs).Z3d v
def Zdr (g : DG) (t : DT) (e : DE) (ds0 : DSt) (Q : List PV → Mem → Prop) : List D → List PV → Mem → Prop
 | [], acc, M => Q acc M
 | x :: xs, acc, M => g x ds0 M fun ds2 M2 => t ds2 M2 fun b M3 => if b = true then e ds2 M3 fun y M4 => ∃ z, y = .v z ∧ acc.length < sizeLine ∧ Zdr g t e ds0 Q xs (acc ++ [z]) M4 else Zdr g t e ds0 Q xs acc M3
def dLc (it : DI) (g : DG) (t : DT) (e : DE) (vs : List Nat) : DE := fun ds M Q => it ds M fun xs M1 => Zdr g t e (Zbl ds vs) (fun acc M2 => Q (vL acc) M2) xs [] M1
def dYes : DT := fun _ M Q => Q true M
theorem Zpb : SimT S tYes dYes := fun c M σ ds Q Qd ok rs q po => po c M true (Step.refl _ _) ok.rl q
def GOwn (g : TG) (vs : List Nat) : Prop := ∀ x σ H Q, g x (wipe σ vs) H Q → g x (wipe σ vs) H fun σ2 H2 => wipe σ2 vs = wipe σ vs ∧ Q σ2 H2
theorem Zr0 (σ : L2.St) (i : Nat) (v : Option V) : wipe ((wipe σ [i]).set i v) [i] = wipe σ [i] := by
 show ((σ.set i none).set i v).set i none = σ.set i none
 rw [Qy, Qy]
theorem Zoh (i : Nat) : GOwn (gName i) [i] := fun x σ H Q h => ⟨Zr0 σ i _, h⟩
theorem Zy0 {ti : TI} {di : DI} {g : TG} {dg : DG} {vs : List Nat} (own : GOwn g vs) (hi : SimI S ti di) (hg : SimG S g dg) (ht : SimT S tt dt) (he : SimE S te de) : SimE S (tLc ti g tt te vs) (dLc di dg dt de vs) := fun c M σ ds Q Qd ok rs q po =>
 hi c M σ ds _ _ ok rs q fun c1 M1 J xs s1 r1 wk q1 => by
  intro P hP
  have ok1 := ok.step s1 r1
  obtain ⟨r2, s2⟩ := r1.Zoz hP (.lst [])
  have rs1 := rs.step s1
  obtain ⟨hPF, hPρ⟩ := r1.fresh hP
  refine ⟨fun i m H' => ∃ c2 M2 acc vs2, c2.H = H' ∧ m = xs.length - i ∧ i ≤ xs.length ∧ Step c1 M1 c2 M2 ∧ Rel S.K S.cs c2 M2 ∧ c2.H P = some (.lst vs2) ∧ c2.F P = none ∧ ¬ Live c2.ρ M2 P ∧ RpL S.K S.cs c2.F acc vs2 ∧ Zdr dg dt de (Zbl ds vs) (fun acc M2 => Qd (vL acc) M2) (xs.drop i) acc M2,
   ⟨xs.length, ⟨c1.F, c1.ρ, upd c1.H P (.lst [])⟩, M1, [], [], rfl, rfl, Q4 _, s2, r2, upd_same, hPF, r1.Z4u hP, (rfl : ([] : List V) = []), q1⟩, ?_⟩
  rintro i m H' ⟨c2, M2, acc, vs2, rfl, rfl, hi, s2, r2, hP1, hP2, hP3, ra, q2⟩
  obtain ⟨w1, w2⟩ := wk i c2 M2 s2.same s2.pre r2
  by_cases hlt : i < xs.length
  ·obtain ⟨g1, g2⟩ := w2 xs[i] (by simp [hlt])
   rw [Qu hlt] at q2
   refine Or.inr ⟨g1, fun H'' => ∃ c3 M3 acc3 vs3, c3.H = H'' ∧ Step c1 M1 c3 M3 ∧ Rel S.K S.cs c3 M3 ∧ c3.H P = some (.lst vs3) ∧ c3.F P = none ∧ ¬ Live c3.ρ M3 P ∧ RpL S.K S.cs c3.F acc3 vs3 ∧ Zdr dg dt de (Zbl ds vs) (fun acc M2 => Qd (vL acc) M2) (xs.drop (i + 1)) acc3 M3,
    fun H'' ⟨c3, M3, acc3, vs3, e, s3, r3, h1, h2, h3, h4, h5⟩ => ⟨xs.length - (i + 1), by omega, c3, M3, acc3, vs3, e, rfl, hlt, s3, r3, h1, h2, h3, h4, h5⟩, fun x H'' hy => own _ _ _ _ ?_⟩
   obtain ⟨c3, rfl, s3, r3, p3⟩ := g2 x H'' hy
   have ok2 := ok1.step s2 r2
   have rs3 : S.St c3 (Zbl ds vs) (wipe σ vs) := Zhv ((rs1.step s2).step s3) vs
   have okP3 := s3.frame P _ hP1 hP2 hP3
   refine hg c3 M2 (wipe σ vs) (Zbl ds vs) _ _ _ _ (ok2.step s3 r3) rs3 p3 q2 fun c4 M4 σ4 ds4 s4 r4 p4 q4 => ?_
   have okP4 := s4.frame P _ okP3.1 okP3.2.1 okP3.2.2
   have ok4 := (ok2.step s3 r3).step s4 r4
   refine ht c4 M4 σ4 ds4 _ _ ok4 p4 q4 fun c5 M5 b s5 r5 q5 => ?_
   have okP5 := s5.frame P _ okP4.1 okP4.2.1 okP4.2.2
   have st5 : Step c1 M1 c5 M5 := s2.trans (s3.trans (s4.trans s5))
   cases b with
   | false => exact ⟨c5, M5, acc, vs2, rfl, st5, r5, okP5.1, okP5.2.1, okP5.2.2, RpL.same (s3.same.trans (s4.same.trans s5.same)) _ _ ra, q5⟩
   | true =>
    refine he c5 M5 σ4 ds4 _ _ (ok4.step s5 r5) (p4.step s5) q5 fun c6 M6 v6 d6 s6 r6 p6 ⟨z, e6, hl, q6⟩ => ?_
    subst e6
    have okP6 := s6.frame P _ okP5.1 okP5.2.1 okP5.2.2
    have ra6 := RpL.same (K := S.K) (cs := S.cs) (s3.same.trans (s4.same.trans (s5.same.trans s6.same))) _ _ ra
    refine ⟨vs2, okP6.1, by rw [← ra.len]; exact hl, ⟨c6.F, c6.ρ, upd c6.H P (.lst (vs2 ++ [v6]))⟩, M6, acc ++ [z], vs2 ++ [v6], rfl, ?_, r6.Zk0 okP6.1 okP6.2.1 okP6.2.2 _, upd_same, okP6.2.1, okP6.2.2, (ra6.a2.append (.cons p6 .nil)).rpL, q6⟩
    have st6 := st5.trans s6
    refine ⟨st6.same, st6.pre, fun a o h1 h2 h3 => ?_⟩
    obtain ⟨k1, k2, k3⟩ := st6.frame a o h1 h2 h3
    have hne : a ≠ P := fun z => by rw [z, hP] at h1; cases h1
    exact ⟨by show upd c6.H P (.lst (vs2 ++ [v6])) a = some o; rw [upd_ne hne]; exact k1, k2, k3⟩
  ·have e : xs.length = i := by omega
   rw [← e, Ht] at q2
   refine Or.inl ⟨w1 e, ?_⟩
   have r3 := r2.Zk1 hP1 hP2 hP3
   have sF : Same c2.F (upd c2.F P (.lst vs2)) := Za3 hP2
   refine po ⟨upd c2.F P (.lst vs2), c2.ρ, c2.H⟩ M2 (.ref P) (vL acc) (s1.trans ⟨s2.same.trans sF, s2.pre, fun a o h1 h2 h3 => ?_⟩) r3 ⟨P, vs2, rfl, upd_same, RpL.same sF _ _ ra⟩ q2
   obtain ⟨k1, k2, k3⟩ := s2.frame a o h1 h2 h3
   have hne : a ≠ P := fun z => by rw [z, hP] at h1; cases h1
   exact ⟨k1, by show upd c2.F P (.lst vs2) a = none; rw [upd_ne hne]; exact k2, k3⟩
end
end Cl
namespace Cl
open PySem PySem.Spec PyProof.Rows L2 He ClX
open StX (CallO callO_with)
section
variable {S : Sc}
variable {te ta tb : TE} {da db de : DE} {tt tu : TT} {dt du : DT} {tr : TA} {dr : DA} {ts us : TS} {dss dus : DS}
def Zct (k : Cn) (Ed : DX) (a : DA) : DS := fun _ ds M => a ds M fun xs M1 => ∃ ps, Zat xs = some ps ∧ ps.length = k.flds.length ∧ Ed ⟨k, ps⟩ M1
theorem Zc6 {k : Cn} {f : Fd} {E : XK} {Ed : DX} (hf : k.flds = [f]) (px : PoX S S.c0 S.M0 Ed E) (ha : SimA S tr dr) : SimS S (Zc2 E (ga S.K k.str) (spX1 (ga S.K k.str) f.str) tr) (Zct k Ed dr) := fun c M σ ds D' Dd ok rs q po =>
 ha c M σ ds _ _ ok rs q fun c1 M1 v1 d1 s1 r1 p1 ⟨ps, hp, hl, q1⟩ => by
  rw [hf] at hl
  match ps, hl with
  | [x], _ =>
   obtain rfl := Zdl hp
   obtain ⟨v, rfl, rv⟩ := ld1 p1
   have key := Zxa (E := E) (C := ga S.K k.str) (f := f.str) (v := v) (D := D') (σ := σ) (H := c1.H) fun d hd => by
    obtain ⟨r2, s2⟩ := r1.lay hd (.xd [(f.str, v)])
    refine px ⟨upd c1.F d (.xd [(f.str, v)]), c1.ρ, upd c1.H d (.xd [(f.str, v)])⟩ M1 _ _ ⟨k, [x]⟩ ((ok.step s1 r1).st.trans s2) r2 ⟨rfl, d, [v], rfl, ?_, _, _, rfl, Rp.same s2.same _ _ rv, rfl⟩ q1
    show upd c1.F d _ d = _
    rw [upd_same]
    show _ = some (HO.xd ((k.flds.map Fd.str).zip [v]))
    rw [hf]
    rfl
   exact key
def PoW (S : Sc) (Wd : DSt → DX) (W : WX) : Prop := ∀ c M σ ds cls d e, S.Ok c M → S.St c ds σ → RpX S.K S.cs c e cls d → Wd ds e M → W cls d σ c.H
theorem Z73 {Wd : DSt → DX} {W : WX} (pw : PoW S Wd W) {c : CS} {M : Mem} {σ : L2.St} {ds : DSt} (ok : S.Ok c M) (rs : S.St c ds σ) : PoX S c M (Wd ds) (WE W σ) := fun c' M' cls d e s r p q => pw c' M' σ ds cls d e (ok.step s r) (rs.step s) p q
theorem Z0x {c : CS} {M : Mem} {g : DSp} {vs : List V} {ds : List D} {Q : VK} {Qd : DQ} {E : XK} {Ed : DX} (ok : S.Ok c M) (r : S.Ld c ds vs) (h : g ds M Qd Ed) (po : PoE S c M Qd Q) (px : PoX S c M Ed E) : spD S.K S.cs g vs c.H Q E :=
 ⟨c, M, ds, Qd, Ed, rfl, ok.rl, r, h, po, px⟩
def Z2t (g : Cn → Option DSp) (W : DSt → DX) (o : DE) (a : DA) : DE := fun ds M Q => o ds M fun x M1 => (∃ k ys, obOf M1 x = some (k, ys)) ∧ a ds M1 fun xs M2 => ∃ k ys sp, obOf M2 x = some (k, ys) ∧ g k = some sp ∧ sp (x :: xs) M2 Q (W ds)
def wTry (tb : List (Cn × Bool)) (i : Nat) (s : Addr → DErr → DS) (Wo : DSt → DX) (E : Zd8) : DSt → DX := fun ds e M => ∃ b, tb.lookup e.c = some b ∧
 (b = true → ∀ a, s a e { nx := fun ds' M' => E.nx (ds'.set i none) M', rt := E.rt, bk := fun ds' M' => E.bk (ds'.set i none) M', ct := fun ds' M' => E.ct (ds'.set i none) M' } (ds.set i (some (.exn a))) M) ∧ (b = false → Wo ds e M)
def dTry (tb : List (Cn × Bool)) (i : Nat) (b : (DSt → DX) → DS) (s : Addr → DErr → DS) (Wo : DSt → DX) : DS := fun E ds M => b (wTry tb i s Wo E) E ds M
theorem lookup_mem {α : Type} {l : List (Cn × α)} {k : Cn} {b : α} (h : l.lookup k = some b) : (k, b) ∈ l := by
 induction l with
 | nil => cases h
 | cons p l ih =>
  obtain ⟨k', b'⟩ := p
  rw [Q7] at h
  split at h
  ·rename_i e
   cases h
   rw [LawfulBEq.eq_of_beq e]
   exact Qp
  ·exact Qh _ (ih h)
theorem RpS.unset {K : PySem.W.Frag} {cs : List Cn} {c : CS} {ds : DSt} {σ : L2.St} (h : RpS K cs c ds σ) (i : Nat) : RpS K cs c (ds.set i none) (σ.set i none) := h.Z3d i
theorem Z08 {x : Cn} {tab : List (Cn × Bool)} {i : Nat} {tb : WX → TS} {db : (DSt → DX) → DS} {ts : Addr → Value → Option Addr → TS} {dsu : Addr → DErr → DS} {Wout : WX} {Wo : DSt → DX} (htb : ∀ k b, (k, b) ∈ tab → PySem.W.exmOne S.K (.ref (ga S.K k.str)) (.ref (ga S.K x.str)) = some b)
  (hb : ∀ c1 M1, S.Ok c1 M1 → ∀ W Wd, PoW ⟨S.K, S.cs, c1, M1⟩ Wd W → SimS ⟨S.K, S.cs, c1, M1⟩ (tb W) (db Wd)) (hs : ∀ a cls d e c1 M1, S.Ok c1 M1 → RpX S.K S.cs c1 e cls d → SimS ⟨S.K, S.cs, c1, M1⟩ (ts a cls d) (dsu a e)) (hw : PoW S Wo Wout) :
  SimS S (fun D σ H => (fun (W : WX) => tb W) (wAs S.K (.ref (ga S.K x.str)) i ts Wout D) D σ H) (dTry tab i db dsu Wo) := fun c M σ ds E Ed ok rs q po => by
 refine hb c M ok (wAs S.K (.ref (ga S.K x.str)) i ts Wout E) (wTry tab i dsu Wo Ed) ?_ c M σ ds E Ed ⟨Step.refl _ _, ok.rl⟩ rs q ⟨po.nx, po.rt, po.bk, po.ct⟩
 intro c2 M2 σ2 ds2 cls d e ok2 rs2 rx ⟨b, hl, h1, h2⟩
 have ok2' : S.Ok c2 M2 := ⟨ok.st.trans ok2.st, ok2.rl⟩
 have em := htb _ _ (lookup_mem hl)
 rw [← rx.1] at em
 refine ⟨b, em, fun hb a ha => ?_, fun hb => hw c2 M2 σ2 ds2 cls d e ok2' rs2 rx (h2 hb)⟩
 have po2 := po.step ok2.st
 exact hs a cls d e c2 M2 ok2' rx c2 M2 _ (ds2.set i (some (.exn a))) _ _ ⟨Step.refl _ _, ok2.rl⟩ (rs2.set (d := .exn a) (v := .ref a) rfl) (h1 hb a)
  ⟨fun c3 M3 σ3 ds3 s3 r3 p3 q3 => po2.nx c3 M3 _ _ s3 r3 (p3.unset i) q3, po2.rt, fun c3 M3 σ3 ds3 s3 r3 p3 q3 => po2.bk c3 M3 _ _ s3 r3 (p3.unset i) q3, fun c3 M3 σ3 ds3 s3 r3 p3 q3 => po2.ct c3 M3 _ _ s3 r3 (p3.unset i) q3⟩
def dXf (a : Addr) (e : DErr) (k : Cn) (f : Fd) (t : DE) : DE := fun ds M Q => t ds M fun x M1 => x = .exn a ∧ e.c = k ∧ k.ix f < k.flds.length ∧ ∃ y, e.xs[k.ix f]? = some y ∧ Q (.v y) M1
theorem Z3p {a : Addr} {cls : Value} {d : Option Addr} {e : DErr} {k : Cn} {f : Fd} {c1 : CS} (hc : Same c1.F S.c0.F) (rx : RpX S.K S.cs c1 e cls d) (ht : SimE S te de) : SimE S (tXf a cls d (ga S.K k.str) f.str te) (dXf a e k f de) := fun c M σ ds Q Qd ok rs q po =>
 ht c M σ ds _ _ ok rs q fun c2 M2 v2 d2 s2 r2 p2 ⟨e1, e2, hl, y, hy, q2⟩ => by
  subst e1
  cases (show v2 = .ref a from p2)
  obtain ⟨h1, h2⟩ := rx
  refine ⟨rfl, by rw [h1, e2], ?_⟩
  have ok2 := ok.step s2 r2
  cases hx : e.xs with
  | nil => rw [hx] at hy; simp at hy
  | cons x xs =>
   rw [hx] at h2
   obtain ⟨dd, vs, h3, h4, h5⟩ := h2
   rw [e2] at h4
   rw [hx] at hy
   have h5' := RpL.same (hc.trans ok2.st.same) _ _ h5
   obtain ⟨v, g1, g2⟩ := h5'.a2.get hy
   exact ⟨dd, _, v, h3, r2.same _ _ (ok2.st.same _ _ (hc _ _ h4)), Zfy _ _ _ _ g1 hl, po_v ok2 (po.step s2) (d := .v y) g2 q2⟩
theorem Zqx {k : Cn} {f : Str} {v : V} {x : PV} (cr : CRead S.K (ga S.K k.str) (.type "type")) (cv : ∃ u, CVal S.K (ga S.K k.str) (.type "type") f v u) (h : ∀ F, Rp S.K S.cs F x v) : SimE S (tCVal S.K (tC (.ref (ga S.K k.str))) f) (dC x) := fun c M σ ds Q Qd ok rs q po => by
 obtain ⟨u, cv⟩ := cv
 exact ⟨_, _, v, u, rfl, cr, cv, po_v ok po (d := .v x) (h c.F) q⟩
inductive Zwn (S : Sc) : List (TE × TE) → List (DE × DE) → Prop
 | nil : Zwn S [] []
 | cons {ta tb : TE} {da db : DE} {ts : List (TE × TE)} {ds : List (DE × DE)} : SimE S ta da → SimE S tb db → Zwn S ts ds → Zwn S ((ta, tb) :: ts) ((da, db) :: ds)
def dFmt (a : DE) : DE := fun ds M Q => a ds M fun x M1 => (∃ z, x = vS z ∧ z.length ≤ sizeLine ∧ Q (vS z) M1) ∨ ∃ i, x = vI i ∧ i.natAbs.log2 < 1920 ∧ Q (vS (figs i)) M1
theorem Ztx (ha : SimE S ta da) : SimE S (tFmt ta) (dFmt da) := fun c M σ ds Q Qd ok rs q po =>
 ha c M σ ds _ _ ok rs q fun c1 M1 v1 d1 s1 r1 p1 h => by
  rcases h with ⟨z, rfl, hz, q1⟩ | ⟨i, rfl, hi, q1⟩
  ·cases (show v1 = sv z from p1)
   exact Or.inl ⟨_, rfl, hz, po_v (ok.step s1 r1) (po.step s1) (d := vS z) rfl q1⟩
  ·cases (show v1 = .int i from p1)
   exact Or.inr ⟨i, rfl, hi, po_v (ok.step s1 r1) (po.step s1) (d := vS (figs i)) rfl q1⟩
def dJs : List DE → List Nat → DSt → Mem → (List Nat → Mem → Prop) → Prop
 | [], acc, _, M, Q => Q acc M
 | a :: r, acc, ds, M, Q => a ds M fun x M1 => ∃ z, x = vS z ∧ acc.length + z.length ≤ sizeLine ∧ dJs r (acc ++ z) ds M1 Q
def dFs (es : List DE) : DE := fun ds M Q => dJs es [] ds M fun z M1 => Q (vS z) M1
inductive Zo0 (S : Sc) : List TE → List DE → Prop
 | nil : Zo0 S [] []
 | cons {ta : TE} {da : DE} {ts : List TE} {ds : List DE} : SimE S ta da → Zo0 S ts ds → Zo0 S (ta :: ts) (da :: ds)
theorem Z3q {tes : List TE} {des : List DE} (h : Zo0 S tes des) : ∀ acc c M σ ds Q Qd, S.Ok c M → S.St c ds σ → dJs des acc ds M Qd → (∀ c' M' z, Step c M c' M' → Rel S.K S.cs c' M' → Qd z M' → Q (Cl.S z) c'.H) → tJs tes (Cl.S acc) σ c.H Q := by
 induction h with
 | nil => exact fun acc c M σ ds Q Qd ok rs q po => po c M acc (Step.refl _ _) ok.rl q
 | cons ha _ ih =>
  intro acc c M σ ds Q Qd ok rs q po
  refine ha c M σ ds _ _ ok rs q fun c1 M1 v1 d1 s1 r1 p1 ⟨z, e, hz, q1⟩ => ?_
  subst e
  cases (show v1 = sv z from p1)
  refine ⟨Cl.S z, rfl, by rw [Z29, S_len, Qc]; exact hz, ?_⟩
  rw [Z29]
  exact ih _ c1 M1 σ ds _ _ (ok.step s1 r1) (rs.step s1) q1 fun c2 M2 z2 s2 r2 q2 => po c2 M2 z2 (s1.trans s2) r2 q2
theorem Zy1 {tes : List TE} {des : List DE} (h : Zo0 S tes des) : SimE S (tFs tes) (dFs des) := fun c M σ ds Q Qd ok rs q po =>
 Z3q h [] c M σ ds _ _ ok rs q fun c1 M1 z s1 r1 q1 => po c1 M1 _ (vS z) s1 r1 rfl q1
inductive Kd where
 | c (k : Cn) | t (n : String)
def Kd.val (K : PySem.W.Frag) : Kd → Value
 | .c k => .ref (ga K k.str)
 | .t n => .type n
def kdOf (M : Mem) (d : D) : Option Kd := match d with
 | .v .non => some (.t "NoneType")
 | .v (.bl _) => some (.t "bool")
 | .v (.int _) => some (.t "int")
 | .v (.str _) => some (.t "str")
 | .v (.lst _) => some (.t "list")
 | .v (.tup _) => some (.t "tuple")
 | d => (obOf M d).map fun p => .c p.1
def uIsi (tab : Kd → Option Bool) (tv : PV) : DR := fun xs M Q => ∃ d k b, xs = [d, .v tv] ∧ kdOf M d = some k ∧ tab k = some b ∧ Q (vB b) M
theorem Zyw {tab : Kd → Option Bool} {tv : PV} {cv : V} {u : Value} (hv : ∀ F, Rp S.K S.cs F tv cv) (hu : ∀ F v, Rp S.K S.cs F tv v → v = cv) (hc : ClsV cv u) (hcs : CsOk S.K S.cs) (hi : ∀ k ∈ S.cs, (tab (.c k)).isSome = true → ICls S.K (ga S.K k.str)) (ht : ∀ k b, (∀ n, k = .c n → n ∈ S.cs) → tab k = some b → PySem.W.kitOne S.K (k.val S.K) u = some b) : SimR S (zIsi S.K) (uIsi tab tv) := fun c M vs ds Q Qd ok r0 q po => by
 obtain ⟨d, k, b, rfl, hk, hb, q⟩ := q
 obtain ⟨v, w, rfl, r1, r2⟩ := ld2 r0
 have e2 := hu _ _ (show Rp S.K S.cs c.F tv w from r2)
 subst e2
 have fin : Q (.bl b) c.H := po_v ok po (d := vB b) rfl q
 have obj : ∀ (kn : Cn) (ys : List D), obOf M d = some (kn, ys) → tab (.c kn) = some b → zIsi S.K [v, w] c.H Q := fun kn ys ho hb => by
  obtain ⟨a, dx, vs, rfl, h1, h2, _⟩ := Zn3 ok r1 ho
  exact Z34 h1 (hcs.cl kn h2) (hi kn h2 (by rw [hb]; rfl)) hc (ht (.c kn) b (fun n e => by cases e; exact h2) hb) fin
 have oth : ∀ t n, TyX S.K c.H v (.type t) → k = .t n → t = n → zIsi S.K [v, w] c.H Q := fun t n ty e e' => by
  subst e e'
  exact Or.inr ⟨_, _, _, _, b, rfl, hc, ty, ht (.t t) b (fun n e => by cases e) hb, fin⟩
 have viaObj : (obOf M d).map (fun p => Kd.c p.1) = some k → zIsi S.K [v, w] c.H Q := fun h => by
  cases ho : obOf M d with
  | none => rw [ho] at h; cases h
  | some p =>
   rw [ho] at h
   cases h
   exact obj p.1 p.2 ho hb
 cases d with
 | v x =>
  cases x with
  | non => cases hk; cases (show v = _ from r1); exact oth _ _ (.base .non) rfl rfl
  | bl i => cases hk; cases (show v = _ from r1); exact oth _ _ (.base (.bl _)) rfl rfl
  | int i => cases hk; cases (show v = _ from r1); exact oth _ _ (.base (.int _)) rfl rfl
  | str z => cases hk; cases (show v = _ from r1); exact oth _ _ (.base (.str _)) rfl rfl
  | lst xs => cases hk; obtain ⟨a, vs, rfl, h1, h2⟩ := r1; exact oth _ _ (.base (.lst (ok.rl.same _ _ h1))) rfl rfl
  | tup xs =>
   cases hk
   obtain ⟨a, vs, rfl, h1, h2⟩ := r1
   rcases Same.seqT ok.rl.same h1 with (h | ⟨o, h⟩) | ⟨o, its, n, h, hc, _⟩
   ·exact oth _ _ (.base (.tup h)) rfl rfl
   ·exact oth _ _ (.fTuple h) rfl rfl
   ·exact oth _ _ (.kTuple h hc) rfl rfl
  | _ => exact viaObj hk
 | cell i => exact viaObj hk
 | exn a => exact viaObj hk
end
end Cl
namespace Cl
open PySem PySem.Spec PyProof.Rows L2 He ClX
section
variable {S : Sc} {ta tb te : TE} {da db de : DE} {tr tk : TA} {dr dk : DA}
def Z2r (ok : Cn → Bool) (n m : Nat) (g : DSp) (Ed : DX) (a ak : DA) : DE := fun ds M Q => ∃ x k ys, ds[0]? = some (some x) ∧ obOf M x = some (k, ys) ∧ ok k = true ∧ a ds M fun xs M1 => ak ds M1 fun zs M2 => xs.length = n ∧ zs.length = m ∧ g ((x :: xs) ++ zs) M2 Q Ed
theorem Zw3 {m : Str} {Dd f : Addr} {n mm : Nat} {okc : Cn → Bool} {g : DSp} {E : XK} {Ed : DX} (hs : ∀ k ∈ S.cs, okc k = true → Sup S.K (ga S.K k.str) Dd m f) (px : PoX S S.c0 S.M0 Ed E) (ha : SimA S tr dr) (hk : SimA S tk dk) :
  SimE S (Z0s S.K Dd m f n mm (spD S.K S.cs g) E tr tk) (Z2r okc n mm g Ed dr dk) := fun c M σ ds Q Qd ok rs ⟨x, k, ys, h0, h, hkk, q⟩ po => by
 obtain ⟨v, hv, rv⟩ := rs.2 0 x h0
 obtain ⟨a, dx, vs, rfl, h1, h2, h3, h4⟩ := Zn3 ok rv h
 refine ⟨a, _, dx, _, hv, h1, hs k h2 hkk, ha c M σ ds _ _ ok rs q fun c1 M1 v1 d1 s1 r1 p1 q1 => hk c1 M1 σ ds _ _ (ok.step s1 r1) (rs.step s1) q1 fun c2 M2 v2 d2 s2 r2 p2 ⟨e1, e2, q2⟩ => ?_⟩
 have ok2 := (ok.step s1 r1).step s2 r2
 refine ⟨(A2.len p1).symm.trans e1, (A2.len p2).symm.trans e2, ?_⟩
 exact Zkh ok2 (.cons (Sc.Vd.step (Sc.Vd.step rv s1) s2) ((Sc.Ld.step p1 s2).append p2)) q2 (po.step (s1.trans s2)) px
def Zky (k : Cn) (n m : Nat) (g : DSp) (Ed : DX) (a ak : DA) : DE := fun ds M Q => a ds M fun xs M0 => ak ds M0 fun zs M1 => xs.length = n ∧ zs.length = m ∧ g (.cell M1.length :: (xs ++ zs)) (M1 ++ [some (.obj k [])]) (mkQ k M1 Q) (Zbf M1 Ed)
theorem Znn {k : Cn} {n m : Nat} {g : DSp} {E : XK} {Ed : DX} (hk : k ∈ S.cs) (px : PoX S S.c0 S.M0 Ed E) (ha : SimA S tr dr) (hkw : SimA S tk dk) : SimE S (tMakeK (ga S.K k.str) n m (spD S.K S.cs g) (fun vs zs => vs ++ zs) E tr tk) (Zky k n m g Ed dr dk) := fun c M σ ds Q Qd ok rs q po =>
 ha c M σ ds _ _ ok rs q fun c0 M0 v0 d0 s0 r0 p0 q0 => hkw c0 M0 σ ds _ _ (ok.step s0 r0) (rs.step s0) q0 fun c1 M1 v1 d1 s1 r1 p1 ⟨e1, e2, q1⟩ => by
  refine ⟨(A2.len p0).symm.trans e1, (A2.len p1).symm.trans e2, ?_⟩
  intro x dx hx hdx ne
  obtain ⟨r2, s2⟩ := r1.newo hk hx hdx ne
  have ok1 := (ok.step s0 r0).step s1 r1
  have s01 := s0.trans s1
  have get : (c1.ρ ++ [x])[M1.length]? = some x := by rw [← r1.len]; simp
  refine ⟨⟨c1.F, c1.ρ ++ [x], upd (upd c1.H dx (.own x)) x (.ins (ga S.K k.str) dx [])⟩, M1 ++ [some (.obj k [])], .cell M1.length :: (d0 ++ d1), _, _, rfl, r2, .cons ⟨x, get, rfl⟩ ((Sc.Ld.step (Sc.Ld.step p0 s1) s2).append (Sc.Ld.step p1 s2)), q1, fun c3 M3 v3 d3 s3 r3 p3 ⟨e3, ys, ps, m3, hp, hex, q3⟩ => ?_, fun c3 M3 cls d e s3 r3 p3 ⟨hex, q3⟩ => ?_⟩
  ·subst e3
   cases (show v3 = .non from p3)
   refine ⟨rfl, ?_⟩
   have e3 : c3.ρ[M1.length]? = some x := Zey s3.pre get
   obtain ⟨o, h1, h2, h3, r4, s4⟩ := r3.freeze e3 m3
   obtain ⟨dx', vs', rfl, h5, h6, h7⟩ := h2
   obtain ⟨r5, s5, e5⟩ := r1.cut r4 (s2.trans (s3.trans s4)) hex
   refine po ⟨upd c3.F x (.ins (ga S.K k.str) dx' (fz k vs')), c3.ρ.take M1.length, c3.H⟩ _ (.ref x) (.v (.obj k ps)) (s01.trans s5) r5 ?_ q3
   refine ⟨x, dx', vs', rfl, upd_same, hk, ?_, RpL.same (Za3 h3) _ _ (Zbu h7 hp)⟩
   rw [Zdl hp] at h6
   simpa using h6
  ·obtain ⟨r5, s5, e5⟩ := r1.cut r3 (s2.trans s3) hex
   exact px ⟨c3.F, c3.ρ.take M1.length, c3.H⟩ _ cls d e (ok1.st.trans s5) r5 p3 q3
end
theorem z_T {c : Bool} {A B : Prop} (h : c = true) (k : A) : if c = true then A else B := by rw [if_pos h]; exact k
theorem z_F {c : Bool} {A B : Prop} (h : c = false) (k : B) : if c = true then A else B := by rw [h]; exact k
theorem z_nT {c : Bool} {A B : Prop} (h : c = true) (k : B) : if (!c) = true then A else B := by rw [h]; exact k
theorem z_nF {c : Bool} {A B : Prop} (h : c = false) (k : A) : if (!c) = true then A else B := by rw [h]; exact k
theorem z_eq {α : Type} [DecidableEq α] {a : α} {A B : Prop} (k : A) : if decide (a = a) = true then A else B := by rw [decide_eq_true rfl]; exact k
theorem Z0e {α : Type} [DecidableEq α] {a : α} {A B : Prop} (k : B) : if (!decide (a = a)) = true then A else B := by rw [decide_eq_true rfl]; exact k
section
variable {t u : DS} {a b c o : DE} {tt tu : DT} {r : DA} {E : Zd8} {ds : DSt} {M : Mem} {Q : DQ} {QB : Bool → Mem → Prop} {QA : List D → Mem → Prop} {g : DG} {i : Nat} {d : D} {x : PV}
theorem k_nf {A B : Prop} (h : A) : if (!false) = true then A else B := h
instance {A B : Prop} : Wg (if (!false) = true then A else B) (A) := ⟨k_nf⟩
theorem k_nt {A B : Prop} (h : B) : if (!true) = true then A else B := h
instance {A B : Prop} : Wg (if (!true) = true then A else B) (B) := ⟨k_nt⟩
theorem k_sz {α : Type} {z : List α} {p : Prop} (h1 : z.length ≤ sizeLine) (h : p) : z.length ≤ sizeLine ∧ p := ⟨h1, h⟩
theorem k_pu {ys : List D} {xs : List PV} {p : List PV → Prop} (e : Zat ys = some xs) (hl : ys.length ≤ sizeLine) (h : p xs) : ∃ xs, Zat ys = some xs ∧ ys.length ≤ sizeLine ∧ p xs := ⟨xs, e, hl, h⟩
theorem Z10 (h : t { E with nx := u E } ds M) : dSeq t u E ds M := ⟨_, h, fun _ _ q => q⟩
instance : Wg (dSeq t u E ds M) (t { E with nx := u E } ds M) := ⟨Z10⟩
theorem Z5u (N : DSt → Mem → Prop) (h : t { E with nx := N } ds M) (k : ∀ ds' M', N ds' M' → u E ds' M') : dCut t u E ds M := ⟨N, h, k⟩
theorem Zpw (h : t { E with nx := u E } ds M) : dCut t u E ds M := ⟨_, h, fun _ _ q => q⟩
theorem Z5w (h : a ds M fun x M1 => g x ds M1 E.nx) : dAsg a g E ds M := h
instance : Wg (dAsg a g E ds M) (a ds M fun x M1 => g x ds M1 E.nx) := ⟨Z5w⟩
theorem Z11 (h : a ds M E.rt) : dRet a E ds M := h
instance : Wg (dRet a E ds M) (a ds M E.rt) := ⟨Z11⟩
theorem k_drop (h : a ds M fun _ M1 => E.nx ds M1) : Zeh a E ds M := h
instance : Wg (Zeh a E ds M) (a ds M fun _ M1 => E.nx ds M1) := ⟨k_drop⟩
theorem Zzr (h : E.nx ds M) : Zam E ds M := h
instance : Wg (Zam E ds M) (E.nx ds M) := ⟨Zzr⟩
theorem Z5p (h : tt ds M fun k M1 => if k = true then t E ds M1 else u E ds M1) : dIfS tt t u E ds M := h
instance : Wg (dIfS tt t u E ds M) (tt ds M fun k M1 => if k = true then t E ds M1 else u E ds M1) := ⟨Z5p⟩
theorem Zsh (e : ds[i]? = some (some d)) (h : Q d M) : dVar i ds M Q := ⟨d, e, h⟩
theorem k_c (h : Q (.v x) M) : dC x ds M Q := h
instance : Wg (dC x ds M Q) (Q (.v x) M) := ⟨k_c⟩
theorem k_op {rr : DR2} (h : a ds M fun x M1 => b ds M1 fun y M2 => rr x y M2 Q) : dOp rr a b ds M Q := h
instance {rr : DR2} : Wg (dOp rr a b ds M Q) (a ds M fun x M1 => b ds M1 fun y M2 => rr x y M2 Q) := ⟨k_op⟩
theorem k_un {rr : D → Mem → DQ → Prop} (h : a ds M fun x M1 => rr x M1 Q) : dUn rr a ds M Q := h
instance {rr : D → Mem → DQ → Prop} : Wg (dUn rr a ds M Q) (a ds M fun x M1 => rr x M1 Q) := ⟨k_un⟩
theorem Z5f (h : QA [] M) : dNil ds M QA := h
instance : Wg (dNil ds M QA) (QA [] M) := ⟨Z5f⟩
theorem Zoc (h : a ds M fun x M1 => r ds M1 fun xs M2 => QA (x :: xs) M2) : Zaa a r ds M QA := h
instance : Wg (Zaa a r ds M QA) (a ds M fun x M1 => r ds M1 fun xs M2 => QA (x :: xs) M2) := ⟨Zoc⟩
theorem k_cb {rr : DR} (h : r ds M fun xs M1 => rr xs M1 Q) : dCB rr r ds M Q := h
instance {rr : DR} : Wg (dCB rr r ds M Q) (r ds M fun xs M1 => rr xs M1 Q) := ⟨k_cb⟩
theorem k_bm {ty : D → Mem → Prop} {rr : DM} (h : o ds M fun x M1 => ty x M1 ∧ r ds M1 fun xs M2 => rr x xs M2 Q) : dBm ty rr o r ds M Q := h
instance {ty : D → Mem → Prop} {rr : DM} : Wg (dBm ty rr o r ds M Q) (o ds M fun x M1 => ty x M1 ∧ r ds M1 fun xs M2 => rr x xs M2 Q) := ⟨k_bm⟩
theorem Z42 {z : List Nat} {p : Prop} (h : p) : tyS (vS z) M ∧ p := ⟨⟨z, rfl⟩, h⟩
instance {z : List Nat} {p : Prop} : Wg (tyS (vS z) M ∧ p) (p) := ⟨Z42⟩
theorem Z1x {ys : List D} {p : Prop} (e : lsOf M d = some ys) (h : p) : tyL d M ∧ p := ⟨⟨ys, e⟩, h⟩
theorem Zzn (h : a ds M fun x M1 => ∃ k, x = vB k ∧ QB k M1) : Zah a ds M QB := h
instance : Wg (Zah a ds M QB) (a ds M fun x M1 => ∃ k, x = vB k ∧ QB k M1) := ⟨Zzn⟩
theorem k_bl {b : Bool} {QP : Bool → Prop} (h : QP b) : ∃ k, vB b = vB k ∧ QP k := ⟨b, rfl, h⟩
instance {b : Bool} {QP : Bool → Prop} : Wg (∃ k, vB b = vB k ∧ QP k) (QP b) := ⟨k_bl⟩
theorem k_i {j : Int} {QP : Int → Prop} (h : QP j) : ∃ k, vI j = vI k ∧ QP k := ⟨j, rfl, h⟩
instance {j : Int} {QP : Int → Prop} : Wg (∃ k, vI j = vI k ∧ QP k) (QP j) := ⟨k_i⟩
theorem k_not (h : tt ds M fun b M1 => QB (!b) M1) : dNot tt ds M QB := h
instance : Wg (dNot tt ds M QB) (tt ds M fun b M1 => QB (!b) M1) := ⟨k_not⟩
theorem Z5x (h : tt ds M fun b M1 => if b = true then tu ds M1 QB else QB false M1) : dAnd tt tu ds M QB := h
instance : Wg (dAnd tt tu ds M QB) (tt ds M fun b M1 => if b = true then tu ds M1 QB else QB false M1) := ⟨Z5x⟩
theorem k_or (h : tt ds M fun b M1 => if b = true then QB true M1 else tu ds M1 QB) : dOr tt tu ds M QB := h
instance : Wg (dOr tt tu ds M QB) (tt ds M fun b M1 => if b = true then QB true M1 else tu ds M1 QB) := ⟨k_or⟩
theorem Zz1 (h : a ds M fun x M1 => ∃ k, x = vB k ∧ if k = true then b ds M1 Q else Q (vB false) M1) : Zos a b ds M Q := h
instance : Wg (Zos a b ds M Q) (a ds M fun x M1 => ∃ k, x = vB k ∧ if k = true then b ds M1 Q else Q (vB false) M1) := ⟨Zz1⟩
theorem Z8h (h : a ds M fun x M1 => ∃ k, x = vB k ∧ if k = true then Q (vB true) M1 else b ds M1 Q) : dOrV a b ds M Q := h
theorem Z5e (h : a ds M fun x M1 => ∃ k, x = vB k ∧ Q (vB (!k)) M1) : Z6m a ds M Q := h
theorem k_if (h : tt ds M fun k M1 => if k = true then a ds M1 Q else b ds M1 Q) : dIf tt a b ds M Q := h
instance : Wg (dIf tt a b ds M Q) (tt ds M fun k M1 => if k = true then a ds M1 Q else b ds M1 Q) := ⟨k_if⟩
theorem Zkr {QS : DSt → Mem → Prop} (h : QS (ds.set i (some d)) M) : hName i d ds M QS := h
instance {QS : DSt → Mem → Prop} : Wg (hName i d ds M QS) (QS (ds.set i (some d)) M) := ⟨Zkr⟩
theorem Zrd {n : Nat} {gs : DGs} {xs : List PV} {QS : DSt → Mem → Prop} (hl : xs.length = n) (h : gs (xs.map D.v) ds M QS) : hTup n gs (vT xs) ds M QS := ⟨xs, rfl, hl, h⟩
theorem Z16 {gs : DGs} {xs : List D} {QS : DSt → Mem → Prop} (h : g d ds M fun ds' M' => gs xs ds' M' QS) : Z6a g gs (d :: xs) ds M QS := ⟨d, xs, rfl, h⟩
theorem Z5q {QS : DSt → Mem → Prop} (h : QS ds M) : hNil [] ds M QS := ⟨rfl, h⟩
theorem Zra {QO : Option Int → Mem → Prop} (h : QO none M) : Za2 ds M QO := h
instance {QO : Option Int → Mem → Prop} : Wg (Za2 ds M QO) (QO none M) := ⟨Zra⟩
theorem Zzq {QO : Option Int → Mem → Prop} (h : a ds M fun x M1 => ∃ i, x = vI i ∧ QO (some i) M1) : Zcw a ds M QO := h
instance {QO : Option Int → Mem → Prop} : Wg (Zcw a ds M QO) (a ds M fun x M1 => ∃ i, x = vI i ∧ QO (some i) M1) := ⟨Zzq⟩
theorem k_sl {rr : D → Option Int → Option Int → Mem → DQ → Prop} {l h : DO} (q : a ds M fun x M1 => l ds M1 fun lo M2 => h ds M2 fun hi M3 => rr x lo hi M3 Q) : dSl rr a l h ds M Q := q
instance {rr : D → Option Int → Option Int → Mem → DQ → Prop} {l h : DO} : Wg (dSl rr a l h ds M Q) (a ds M fun x M1 => l ds M1 fun lo M2 => h ds M2 fun hi M3 => rr x lo hi M3 Q) := ⟨k_sl⟩
theorem Z44 (h : r ds M fun ys M1 => ∃ xs, Zat ys = some xs ∧ ys.length ≤ sizeLine ∧ Q (vT xs) M1) : dTup r ds M Q := h
instance : Wg (dTup r ds M Q) (r ds M fun ys M1 => ∃ xs, Zat ys = some xs ∧ ys.length ≤ sizeLine ∧ Q (vT xs) M1) := ⟨Z44⟩
theorem Z5i (h : r ds M fun ys M1 => ∃ xs, Zat ys = some xs ∧ ys.length ≤ sizeLine ∧ Q (vL xs) M1) : dLst r ds M Q := h
instance : Wg (dLst r ds M Q) (r ds M fun ys M1 => ∃ xs, Zat ys = some xs ∧ ys.length ≤ sizeLine ∧ Q (vL xs) M1) := ⟨Z5i⟩
theorem Zzt (h : r ds M fun ys M1 => ys.length ≤ sizeLine ∧ Q (.cell M1.length) (M1 ++ [some (.lst ys)])) : Zoq r ds M Q := h
instance : Wg (Zoq r ds M Q) (r ds M fun ys M1 => ys.length ≤ sizeLine ∧ Q (.cell M1.length) (M1 ++ [some (.lst ys)])) := ⟨Zzt⟩
theorem Zvi {rr rr' : DR2} (h : a ds M fun x M1 => b ds M1 fun y M2 => rr x y M2 fun z M3 => ∃ k, z = vB k ∧ if k = true then c ds M3 fun u M4 => rr' y u M4 Q else Q (vB false) M3) : Zjd rr rr' a b c ds M Q := h
instance {rr rr' : DR2} : Wg (Zjd rr rr' a b c ds M Q) (a ds M fun x M1 => b ds M1 fun y M2 => rr x y M2 fun z M3 => ∃ k, z = vB k ∧ if k = true then c ds M3 fun u M4 => rr' y u M4 Q else Q (vB false) M3) := ⟨Zvi⟩
theorem Zzz {gg : DSp} {X : DX} (h : r ds M fun xs M1 => gg xs M1 Q X) : Zd6 gg X r ds M Q := h
instance {gg : DSp} {X : DX} : Wg (Zd6 gg X r ds M Q) (r ds M fun xs M1 => gg xs M1 Q X) := ⟨Zzz⟩
theorem k_meth {gg : Cn → Option DSp} {dv : List PV} {X : DX} (h : o ds M fun x M1 => ∃ k ys sp, obOf M1 x = some (k, ys) ∧ gg k = some sp ∧ r ds M1 fun xs M2 => sp (x :: (xs ++ dv.map D.v)) M2 Q X) : Zd5 gg dv X o r ds M Q := h
instance {gg : Cn → Option DSp} {dv : List PV} {X : DX} : Wg (Zd5 gg dv X o r ds M Q) (o ds M fun x M1 => ∃ k ys sp, obOf M1 x = some (k, ys) ∧ gg k = some sp ∧ r ds M1 fun xs M2 => sp (x :: (xs ++ dv.map D.v)) M2 Q X) := ⟨k_meth⟩
theorem Z47 (h : a ds M fun x M1 => ∃ k, truD M1 x = some k ∧ (∀ z, x = vS z → z.length ≤ sizeLine) ∧ QB k M1) : dTru a ds M QB := h
instance : Wg (dTru a ds M QB) (a ds M fun x M1 => ∃ k, truD M1 x = some k ∧ (∀ z, x = vS z → z.length ≤ sizeLine) ∧ QB k M1) := ⟨Z47⟩
theorem Zzm {b : Bool} {p : Bool → Prop} (h : p b) : ∃ k, truD M (vB b) = some k ∧ (∀ z, vB b = vS z → z.length ≤ sizeLine) ∧ p k := ⟨b, rfl, (fun _ e => by cases e), h⟩
instance {b : Bool} {p : Bool → Prop} : Wg (∃ k, truD M (vB b) = some k ∧ (∀ z, vB b = vS z → z.length ≤ sizeLine) ∧ p k) (p b) := ⟨Zzm⟩
theorem Zzl {xs : List PV} {p : Bool → Prop} (h : p (!xs.isEmpty)) : ∃ k, truD M (vL xs) = some k ∧ (∀ z, vL xs = vS z → z.length ≤ sizeLine) ∧ p k := ⟨_, rfl, (fun _ e => by cases e), h⟩
instance {xs : List PV} {p : Bool → Prop} : Wg (∃ k, truD M (vL xs) = some k ∧ (∀ z, vL xs = vS z → z.length ≤ sizeLine) ∧ p k) (p (!xs.isEmpty)) := ⟨Zzl⟩
theorem Z5t {f : Fd} (h : a ds M fun x M1 => ∃ k ys y, obOf M1 x = some (k, ys) ∧ ys[k.ix f]? = some y ∧ Q y M1) : dFld a f ds M Q := h
instance {f : Fd} : Wg (dFld a f ds M Q) (a ds M fun x M1 => ∃ k ys y, obOf M1 x = some (k, ys) ∧ ys[k.ix f]? = some y ∧ Q y M1) := ⟨Z5t⟩
theorem Z5b {f : Fd} (h : a ds M fun y M1 => o ds M1 fun x M2 => ∃ i k ys, x = .cell i ∧ M2[i]? = some (some (.obj k ys)) ∧ k.ix f ≤ ys.length ∧ k.ix f < k.flds.length ∧ E.nx ds (M2.set i (some (.obj k (setF ys (k.ix f) y))))) : dStF o a f E ds M := h
instance {f : Fd} : Wg (dStF o a f E ds M) (a ds M fun y M1 => o ds M1 fun x M2 => ∃ i k ys, x = .cell i ∧ M2[i]? = some (some (.obj k ys)) ∧ k.ix f ≤ ys.length ∧ k.ix f < k.flds.length ∧ E.nx ds (M2.set i (some (.obj k (setF ys (k.ix f) y))))) := ⟨Z5b⟩
theorem Z5r (h : a ds M fun x M1 => ∃ y M2, frz M1 x = some (y, M2) ∧ Q (.v y) M2) : dFrz a ds M Q := h
instance : Wg (dFrz a ds M Q) (a ds M fun x M1 => ∃ y M2, frz M1 x = some (y, M2) ∧ Q (.v y) M2) := ⟨Z5r⟩
theorem Zre (x : PV) {p : PV → Mem → Prop} (h : p x M) : ∃ y M2, frz M (.v x) = some (y, M2) ∧ p y M2 := ⟨x, M, rfl, h⟩
theorem k_lc {it : DI} {vs : List Nat} {e : DE} (h : it ds M fun xs M1 => Zdr g tt e (Zbl ds vs) (fun acc M2 => Q (vL acc) M2) xs [] M1) : dLc it g tt e vs ds M Q := h
instance {it : DI} {vs : List Nat} {e : DE} : Wg (dLc it g tt e vs ds M Q) (it ds M fun xs M1 => Zdr g tt e (Zbl ds vs) (fun acc M2 => Q (vL acc) M2) xs [] M1) := ⟨k_lc⟩
theorem Zu4 (h : QB true M) : dYes ds M QB := h
instance : Wg (dYes ds M QB) (QB true M) := ⟨Zu4⟩
theorem Z5s {it : DI} (h : it ds M fun xs M1 => Zeg g t E xs ds M1) : dFor it g t E ds M := h
instance {it : DI} : Wg (dFor it g t E ds M) (it ds M fun xs M1 => Zeg g t E xs ds M1) := ⟨Z5s⟩
theorem Zzx {R : List D → Mem → Prop} (h : a ds M fun x M1 => ∃ z, x = vS z ∧ R (z.map fun c => D.v (.str [c])) M1) : jStr a ds M R := h
instance {R : List D → Mem → Prop} : Wg (jStr a ds M R) (a ds M fun x M1 => ∃ z, x = vS z ∧ R (z.map fun c => D.v (.str [c])) M1) := ⟨Zzx⟩
theorem Zzy {R : List D → Mem → Prop} (h : a ds M fun x M1 => ∃ xs, x = vL xs ∧ R (xs.map D.v) M1) : jLst a ds M R := h
instance {R : List D → Mem → Prop} : Wg (jLst a ds M R) (a ds M fun x M1 => ∃ xs, x = vL xs ∧ R (xs.map D.v) M1) := ⟨Zzy⟩
theorem Zzw {R : List D → Mem → Prop} (h : a ds M fun x M1 => ∃ xs, x = vT xs ∧ R (xs.map D.v) M1) : jTup a ds M R := h
instance {R : List D → Mem → Prop} : Wg (jTup a ds M R) (a ds M fun x M1 => ∃ xs, x = vT xs ∧ R (xs.map D.v) M1) := ⟨Zzw⟩
theorem k_s {z : List Nat} {QP : List Nat → Prop} (h : QP z) : ∃ k, vS z = vS k ∧ QP k := ⟨z, rfl, h⟩
instance {z : List Nat} {QP : List Nat → Prop} : Wg (∃ k, vS z = vS k ∧ QP k) (QP z) := ⟨k_s⟩
theorem k_l {z : List PV} {QP : List PV → Prop} (h : QP z) : ∃ k, vL z = vL k ∧ QP k := ⟨z, rfl, h⟩
instance {z : List PV} {QP : List PV → Prop} : Wg (∃ k, vL z = vL k ∧ QP k) (QP z) := ⟨k_l⟩
theorem k_tu {z : List PV} {QP : List PV → Prop} (h : QP z) : ∃ k, vT z = vT k ∧ QP k := ⟨z, rfl, h⟩
instance {z : List PV} {QP : List PV → Prop} : Wg (∃ k, vT z = vT k ∧ QP k) (QP z) := ⟨k_tu⟩
theorem Zzo {R : List D → Mem → Prop} (h : r ds M fun xs M1 => ∃ j : Int, xs = [vI j] ∧ -(2 ^ 62) ≤ j ∧ j < 2 ^ 62 ∧ R ((List.range j.toNat).map fun (k : Nat) => vI k) M1) : Zof r ds M R := h
instance {R : List D → Mem → Prop} : Wg (Zof r ds M R) (r ds M fun xs M1 => ∃ j : Int, xs = [vI j] ∧ -(2 ^ 62) ≤ j ∧ j < 2 ^ 62 ∧ R ((List.range j.toNat).map fun (k : Nat) => vI k) M1) := ⟨Zzo⟩
theorem Zu8 {k : Cn} {X : DX} (h : r ds M fun xs M1 => ∃ ps, Zat xs = some ps ∧ ps.length = k.flds.length ∧ X ⟨k, ps⟩ M1) : Zct k X r E ds M := h
instance {k : Cn} {X : DX} : Wg (Zct k X r E ds M) (r ds M fun xs M1 => ∃ ps, Zat xs = some ps ∧ ps.length = k.flds.length ∧ X ⟨k, ps⟩ M1) := ⟨Zu8⟩
theorem Z45 {tb : List (Cn × Bool)} {bb : (DSt → DX) → DS} {s : Addr → DErr → DS} {Wo : DSt → DX} (h : bb (wTry tb i s Wo E) E ds M) : dTry tb i bb s Wo E ds M := h
theorem Z18 {gg : Cn → Option DSp} {X : DX} (h : o ds M fun x M1 => (∃ k ys, obOf M1 x = some (k, ys)) ∧ r ds M1 fun xs M2 => ∃ k ys sp, obOf M2 x = some (k, ys) ∧ gg k = some sp ∧ sp (x :: xs) M2 Q X) : Z6o gg X o r ds M Q := h
theorem Zx0 {gg : Cn → Option DSp} {W : DSt → DX} (h : o ds M fun x M1 => (∃ k ys, obOf M1 x = some (k, ys)) ∧ r ds M1 fun xs M2 => ∃ k ys sp, obOf M2 x = some (k, ys) ∧ gg k = some sp ∧ sp (x :: xs) M2 Q (W ds)) : Z2t gg W o r ds M Q := h
theorem k_xf {z : Addr} {e : DErr} {k : Cn} {f : Fd} (h : a ds M fun x M1 => x = .exn z ∧ e.c = k ∧ k.ix f < k.flds.length ∧ ∃ y, e.xs[k.ix f]? = some y ∧ Q (.v y) M1) : dXf z e k f a ds M Q := h
instance {z : Addr} {e : DErr} {k : Cn} {f : Fd} : Wg (dXf z e k f a ds M Q) (a ds M fun x M1 => x = .exn z ∧ e.c = k ∧ k.ix f < k.flds.length ∧ ∃ y, e.xs[k.ix f]? = some y ∧ Q (.v y) M1) := ⟨k_xf⟩
theorem k_fs {es : List DE} (h : dJs es [] ds M fun z M1 => Q (vS z) M1) : dFs es ds M Q := h
theorem k_js {es : List DE} {acc : List Nat} {QS : List Nat → Mem → Prop} (h : a ds M fun x M1 => ∃ z, x = vS z ∧ acc.length + z.length ≤ sizeLine ∧ dJs es (acc ++ z) ds M1 QS) : dJs (a :: es) acc ds M QS := h
theorem Z5k {acc : List Nat} {QS : List Nat → Mem → Prop} (h : QS acc M) : dJs [] acc ds M QS := h
theorem Z8q (h : a ds M fun x M1 => (∃ z, x = vS z ∧ z.length ≤ sizeLine ∧ Q (vS z) M1) ∨ ∃ i, x = vI i ∧ i.natAbs.log2 < 1920 ∧ Q (vS (figs i)) M1) : dFmt a ds M Q := h
theorem k_sub {y : D} {QS : DSt → Mem → Prop} (h : o ds M fun x M1 => a ds M1 fun j M2 => ∃ k es n l, x = .cell k ∧ j = vI n ∧ M2[k]? = some (some (.lst es)) ∧ ixN es.length n = some l ∧ QS ds (M2.set k (some (.lst (es.set l y))))) : hSub o a y ds M QS := h
theorem Zxw (h : r ds M fun xs M1 => Zsz xs M1 Q) : Zmu r ds M Q := h
theorem Zxs (h : r ds M fun xs M1 => ∃ z, xs = [vS z] ∧ z.length < 64 ∧ ∀ ys : List Nat, ys.Pairwise (· < ·) → (∀ c, c ∈ ys ↔ c ∈ z) → Q (vL (sgn ys)) M1) : Zmr r ds M Q := h
theorem Z8g (h : a ds M fun x M1 => ∃ z, x = vS z ∧ z.length ≤ sizeLine ∧ Q (vS z.reverse) M1) : dRev a ds M Q := h
theorem Zz2 {i j : Int} (h : Q (vI (i + j)) M) : uAdd (vI i) (vI j) M Q := Or.inl ⟨i, j, rfl, rfl, h⟩
instance {i j : Int} : Wg (uAdd (vI i) (vI j) M Q) (Q (vI (i + j)) M) := ⟨Zz2⟩
theorem Zod {z y : List Nat} (hl : z.length + y.length ≤ sizeLine) (h : Q (vS (z ++ y)) M) : uAdd (vS z) (vS y) M Q := Or.inr (Or.inl ⟨z, y, rfl, rfl, hl, h⟩)
theorem Zks {z y : List PV} (hl : z.length + y.length ≤ sizeLine) (h : Q (vL (z ++ y)) M) : uAdd (vL z) (vL y) M Q := Or.inr (Or.inr ⟨z, y, rfl, rfl, hl, h⟩)
theorem Z49 {i j : Int} (h : Q (vI (i - j)) M) : uSub (vI i) (vI j) M Q := ⟨i, j, rfl, rfl, h⟩
theorem k_lt {i j : Int} (h : Q (vB (decide (i < j))) M) : uLt (vI i) (vI j) M Q := ⟨i, j, rfl, rfl, h⟩
theorem k_le {i j : Int} (h : Q (vB (decide (i ≤ j))) M) : uLe (vI i) (vI j) M Q := ⟨i, j, rfl, rfl, h⟩
instance {i j : Int} : Wg (uLe (vI i) (vI j) M Q) (Q (vB (decide (i ≤ j))) M) := ⟨k_le⟩
theorem k_gt {i j : Int} (h : Q (vB (decide (j < i))) M) : uGt (vI i) (vI j) M Q := ⟨i, j, rfl, rfl, h⟩
instance {i j : Int} : Wg (uGt (vI i) (vI j) M Q) (Q (vB (decide (j < i))) M) := ⟨k_gt⟩
theorem k_ge {i j : Int} (h : Q (vB (decide (j ≤ i))) M) : uGe (vI i) (vI j) M Q := ⟨i, j, rfl, rfl, h⟩
theorem Z8i {i : Int} (h : Q (vI (-i)) M) : uNeg (vI i) M Q := ⟨i, rfl, h⟩
theorem k_eq {x y : PV} {k : Bool} (e : eqP x y = some k) (h : Q (vB k) M) : uEq (.v x) (.v y) M Q := ⟨x, y, rfl, rfl, Or.inl ⟨k, e, h⟩⟩
theorem k_ne {x y : PV} {k : Bool} (e : eqP x y = some k) (h : Q (vB (!k)) M) : uNe (.v x) (.v y) M Q := ⟨x, y, rfl, rfl, Or.inl ⟨k, e, h⟩⟩
theorem Z5g {z : List Nat} (h : Q (vB false) M) : uNe (vS z) (vS z) M Q := ⟨_, _, rfl, rfl, Or.inl ⟨true, by show some (decide (z = z)) = _; rw [decide_eq_true rfl], h⟩⟩
instance {z : List Nat} : Wg (uNe (vS z) (vS z) M Q) (Q (vB false) M) := ⟨Z5g⟩
theorem Z8r {z : List Nat} (h : Q (vB true) M) : uEq (vS z) (vS z) M Q := ⟨_, _, rfl, rfl, Or.inl ⟨true, by show some (decide (z = z)) = _; rw [decide_eq_true rfl], h⟩⟩
theorem Z5m (h : Q (vB (isNon d)) M) : uIs d (.v .non) M Q := Or.inl ⟨rfl, h⟩
instance : Wg (uIs d (.v .non) M Q) (Q (vB (isNon d)) M) := ⟨Z5m⟩
theorem Zrc (h : Q (vB (!isNon d)) M) : Zkf d (.v .non) M Q := Or.inl ⟨rfl, h⟩
instance : Wg (Zkf d (.v .non) M Q) (Q (vB (!isNon d)) M) := ⟨Zrc⟩
theorem Z8m {x y : Bool} (h : Q (vB (decide (x = y))) M) : uIs (vB x) (vB y) M Q := Or.inr ⟨x, y, rfl, rfl, h⟩
theorem Zxy {x y : Bool} (h : Q (vB (!decide (x = y))) M) : Zkf (vB x) (vB y) M Q := Or.inr ⟨x, y, rfl, rfl, h⟩
theorem k_in {c : Nat} {z : List Nat} (h : Q (vB (decide (c ∈ z))) M) : uIn (vS [c]) (vS z) M Q := Or.inl ⟨c, z, rfl, rfl, by rw [Gv]; exact h⟩
theorem Z12 {c : Nat} {z : List Nat} (h : Q (vB (!decide (c ∈ z))) M) : Zgn (vS [c]) (vS z) M Q := Or.inl ⟨c, z, rfl, rfl, by rw [G4]; exact h⟩
theorem Z5l {z : List Nat} {i : Int} {c : Nat} (hl : z.length ≤ sizeLine) (e : atI z i = some c) (h : Q (vS [c]) M) : uIx (vS z) (vI i) M Q := ⟨i, rfl, Or.inl ⟨z, c, rfl, hl, e, h⟩⟩
theorem Ziz {z : List PV} {i : Int} {y : PV} (e : atI z i = some y) (h : Q (.v y) M) : uIx (vL z) (vI i) M Q := ⟨i, rfl, Or.inr (Or.inl ⟨z, y, Or.inl rfl, e, h⟩)⟩
theorem Zvf {z : List PV} {i : Int} {y : PV} (e : atI z i = some y) (h : Q (.v y) M) : uIx (vT z) (vI i) M Q := ⟨i, rfl, Or.inr (Or.inl ⟨z, y, Or.inr rfl, e, h⟩)⟩
theorem Zj6 {k : Nat} {z : List D} {i : Int} {y : D} (m : M[k]? = some (some (.lst z))) (e : atI z i = some y) (h : Q y M) : uIx (.cell k) (vI i) M Q := ⟨i, rfl, Or.inr (Or.inr ⟨k, z, y, rfl, m, e, h⟩)⟩
theorem Zxt {z : List Nat} {lo hi : Option Int} (hl : z.length ≤ sizeLine) (h : Q (vS (cut z lo hi)) M) : uSl (vS z) lo hi M Q := Or.inl ⟨z, rfl, hl, h⟩
theorem Z5d {z : List PV} {lo hi : Option Int} (h : Q (vL (cut z lo hi)) M) : uSl (vL z) lo hi M Q := Or.inr (Or.inl ⟨z, rfl, h⟩)
instance {z : List PV} {lo hi : Option Int} : Wg (uSl (vL z) lo hi M Q) (Q (vL (cut z lo hi)) M) := ⟨Z5d⟩
theorem Z8e {ns : List Int} {lo hi : Option Int} (h : Q (vL ((cut ns lo hi).map PV.int)) M) : uSl (.v (.scr ns)) lo hi M Q := Or.inr (Or.inr (Or.inl ⟨ns, rfl, h⟩))
theorem Z8f {z : List PV} {lo hi : Option Int} (hn : ¬ (HT.sIx z.length 0 lo = 0 ∧ HT.sIx z.length z.length hi = z.length)) (h : Q (vT (cut z lo hi)) M) : uSlT (vT z) lo hi M Q := ⟨z, rfl, hn, h⟩
theorem Zrb {z : List Nat} (hl : z.length ≤ sizeLine) (h : Q (vI z.length) M) : uLen [vS z] M Q := ⟨_, rfl, Or.inl ⟨z, rfl, hl, h⟩⟩
theorem Zzv {z : List PV} (h : Q (vI z.length) M) : uLen [vL z] M Q := ⟨_, rfl, Or.inr ⟨_, rfl, by rw [Qb]; exact h⟩⟩
instance {z : List PV} : Wg (uLen [vL z] M Q) (Q (vI z.length) M) := ⟨Zzv⟩
theorem Zzu {z : List PV} (h : Q (vI z.length) M) : uLen [vT z] M Q := ⟨_, rfl, Or.inr ⟨_, rfl, by rw [Qb]; exact h⟩⟩
instance {z : List PV} : Wg (uLen [vT z] M Q) (Q (vI z.length) M) := ⟨Zzu⟩
theorem Z5j {k : Nat} {z : List D} (m : M[k]? = some (some (.lst z))) (h : Q (vI z.length) M) : uLen [.cell k] M Q := ⟨_, rfl, Or.inr ⟨z, by show (match M[k]? with | some (some (Cell.lst ds)) => some ds | _ => none) = _; rw [m], h⟩⟩
theorem Z8n {i : Int} (h : Q (vI i) M) : uInt [vI i] M Q := Or.inl ⟨i, rfl, h⟩
theorem Z5n {k : Bool} (h : Q (vI (if k then 1 else 0)) M) : uInt [vB k] M Q := Or.inr ⟨k, rfl, h⟩
theorem Z5v {k : Bool} (h : Q (vB k) M) : Z64 [vB k] M Q := ⟨k, rfl, h⟩
theorem Zva {z : List PV} (h : Q (vL z) M) : Zo5 [vL z] M Q := ⟨_, rfl, Or.inr ⟨_, z, rfl, Zbg z, h⟩⟩
instance {z : List PV} : Wg (Zo5 [vL z] M Q) (Q (vL z) M) := ⟨Zva⟩
theorem Z15 {z : List PV} (h : Q (vL z) M) : Zo5 [vT z] M Q := ⟨_, rfl, Or.inr ⟨_, z, rfl, Zbg z, h⟩⟩
theorem Z1z {z : List Nat} (hl : z.length < 64) (h : Q (vL (sgn (srt z))) M) : uSrt [vS z] M Q := ⟨z, rfl, hl, h⟩
theorem Zpx {y : List Nat} {zs : List (List Nat)} {xs : List PV} (e : xs = zs.map PV.str) (hl : (zs.map List.length).sum + zs.length * y.length ≤ 16777216) (h : Q (vS (glue y zs)) M) : Zgy (vS y) [vL xs] M Q := by
 subst e
 exact ⟨y, _, zs, rfl, rfl, rfl, hl, h⟩
theorem Zmj {z : List Nat} (hl : z.length ≤ 1000000) (h : Q (vS z) M) : Zgy (vS []) [vL (sgn z)] M Q := by
 refine Zpx (zs := z.map fun c => [c]) (by rw [Qk]; rfl) ?_ ?_
 ·have : ((z.map fun c => [c]).map List.length).sum = z.length := by
   clear hl h
   rw [Qk]
   induction z with
   | nil => rfl
   | cons a t ih =>
    rw [Ha, G6, ih]
    simp
    omega
  rw [this]
  simp
  omega
 ·rw [Zrh, Zx8]
  exact h
theorem Zpt {ys : List D} : lsOf (M ++ [some (.lst ys)]) (.cell M.length) = some ys := by
 show (match (M ++ [some (Cell.lst ys)])[M.length]? with | some (some (Cell.lst ds)) => some ds | _ => none) = _
 rw [Qj]
theorem Zbi {α : Type} {M : List α} {x y : α} : (M ++ [x]).set M.length y = M ++ [y] := by
 rw [L8 _ _ (Qz _), Nat.sub_self]
 rfl
theorem Zvj {ys : List D} {d : D} (hl : ys.length < sizeLine) (h : Q (.v .non) (M ++ [some (.lst (ys ++ [d]))])) : uApp (.cell M.length) [d] (M ++ [some (.lst ys)]) Q := ⟨_, ys, d, rfl, rfl, Qj .., hl, by rw [Zbi]; exact h⟩
theorem Z0w {ys : List D} : sqOf (M ++ [some (.lst ys)]) (.cell M.length) = some ys := by
 show (match (M ++ [some (Cell.lst ys)])[M.length]? with | some (some (Cell.lst ds)) => some ds | _ => none) = _
 rw [Qj]
theorem Exit.refl (M : Mem) : Exit M M := ⟨Qz _, fun i x _ e => Or.inl e⟩
theorem Exit.app (M ys : Mem) : Exit M (M ++ ys) := ⟨by simp, fun i x hi e => Or.inl (by rw [Q0 hi] at e; exact e)⟩
theorem Exit.set {M : Mem} {i : Nat} {x : Cell} (h : x.low M.length) : Exit M (M.set i (some x)) := ⟨by simp, fun j y hj e => by
 by_cases hij : i = j
 ·subst hij
  rw [Qt hj] at e
  cases e
  exact Or.inr h
 ·rw [Q3 hij] at e
  exact Or.inl e⟩
theorem Exit.trans {M M1 M2 : Mem} (a : Exit M M1) (hl : M1.length = M.length) (b : Exit M1 M2) : Exit M M2 := ⟨Hb a.1 b.1, fun i x hi e => by
 rcases b.2 i x (by omega) e with h | h
 ·exact a.2 i x hi h
 ·exact Or.inr (hl ▸ h)⟩
theorem Zak {x : PV} (h : Q (.v x) M) : Zad M Q (.v x) M := ⟨(fun _ e => by cases e), Exit.refl M, by rw [Q8]; exact h⟩
theorem Z0m {x : PV} {ys : Mem} (h : Q (.v x) M) : Zad M Q (.v x) (M ++ ys) := ⟨(fun _ e => by cases e), Exit.app M ys, by rw [Gm]; exact h; rfl⟩
theorem Z63 {x : PV} {i : Nat} {c : Cell} (hc : c.low M.length) (h : Q (.v x) (M.set i (some c))) : Zad M Q (.v x) (M.set i (some c)) := ⟨(fun _ e => by cases e), Exit.set hc, by
 have e : (M.set i (some c)).take M.length = M.set i (some c) := by
  have : (M.set i (some c)).length = M.length := by simp
  rw [← this, Q8]
 rw [e]
 exact h⟩
theorem Zc1 {X : DX} {e : DErr} (h : X e M) : Zbf M X e M := ⟨Exit.refl M, by rw [Q8]; exact h⟩
theorem Zd0 {k : Cn} {ps : List PV} {o : Option Cell} (h : Q (.v (.obj k ps)) M) : mkQ k M Q (.v .non) ((M ++ [o]).set M.length (some (.obj k (ps.map D.v)))) := by
 refine ⟨rfl, ps.map D.v, ps, ?_, Zbg ps, ?_, ?_⟩
 ·rw [Zbi, Qj]
 ·rw [Zbi, Zbi]
  exact Exit.app M _
 ·rw [Zbi, Zbi, Gm rfl]
  exact h
theorem Zzs {k : Cn} {gg : DSp} {dv : List PV} {X : DX} (h : r ds M fun xs M1 => gg (.cell M1.length :: (xs ++ dv.map D.v)) (M1 ++ [some (.obj k [])]) (mkQ k M1 Q) (Zbf M1 X)) : Zjc k gg dv X r ds M Q := h
instance {k : Cn} {gg : DSp} {dv : List PV} {X : DX} : Wg (Zjc k gg dv X r ds M Q) (r ds M fun xs M1 => gg (.cell M1.length :: (xs ++ dv.map D.v)) (M1 ++ [some (.obj k [])]) (mkQ k M1 Q) (Zbf M1 X)) := ⟨Zzs⟩
theorem Zuu {xs : List D} (h : g d ds M fun ds2 M2 => t { E with nx := Zeg g t E xs, ct := Zeg g t E xs, bk := E.nx } ds2 M2) : Zeg g t E (d :: xs) ds M := h
theorem Zc0 {xs : List D} (I : Nat → DSt → Mem → Prop) (h0 : I 0 ds M) (hs : ∀ i x ds M (N : DSt → Mem → Prop), xs[i]? = some x → I i ds M → (∀ ds' M', I (i + 1) ds' M' → N ds' M') → g x ds M fun ds2 M2 => t { E with nx := N, ct := N, bk := E.nx } ds2 M2) (hd : ∀ ds M, I xs.length ds M → E.nx ds M) : Zeg g t E xs ds M := by
 have key : ∀ (ys : List D) (i : Nat) (ds : DSt) (M : Mem), xs.drop i = ys → i ≤ xs.length → I i ds M → Zeg g t E ys ds M := by
  intro ys
  induction ys with
  | nil =>
   intro i ds M e hi hI
   have : xs.length ≤ i := Le.mp e
   have : i = xs.length := by omega
   subst this
   exact hd ds M hI
  | cons y ys ih =>
   intro i ds M e hi hI
   have hlt : i < xs.length := by
    rcases Gs i xs.length with h | h
    ·exact h
    ·rw [Gy h] at e
     cases e
   rw [Qu hlt] at e
   obtain ⟨e1, e2⟩ := Hs e
   exact hs i y ds M _ (by rw [← e1]; simp [hlt]) hI fun ds' M' hI' => ih (i + 1) ds' M' e2 hlt hI'
 exact key xs 0 ds M rfl (Q4 _) h0
theorem Zrt {e : DE} {P : List PV → Mem → Prop} {xs : List D} (I : Nat → List PV → Mem → Prop) (h0 : I 0 [] M) (hs : ∀ i x acc M (N : List PV → Mem → Prop), xs[i]? = some x → I i acc M → (∀ acc' M', I (i + 1) acc' M' → N acc' M') → g x ds M fun ds2 M2 => tt ds2 M2 fun b M3 => if b = true then e ds2 M3 fun y M4 => ∃ z, y = .v z ∧ acc.length < sizeLine ∧ N (acc ++ [z]) M4 else N acc M3) (hd : ∀ acc M, I xs.length acc M → P acc M) : Zdr g tt e ds P xs [] M := by
 have key : ∀ (ys : List D) (i : Nat) (acc : List PV) (M : Mem), xs.drop i = ys → i ≤ xs.length → I i acc M → Zdr g tt e ds P ys acc M := by
  intro ys
  induction ys with
  | nil =>
   intro i acc M e hi hI
   have : xs.length ≤ i := Le.mp e
   have : i = xs.length := by omega
   subst this
   exact hd acc M hI
  | cons y ys ih =>
   intro i acc M e hi hI
   have hlt : i < xs.length := by
    rcases Gs i xs.length with h | h
    ·exact h
    ·rw [Gy h] at e
     cases e
   rw [Qu hlt] at e
   obtain ⟨e1, e2⟩ := Hs e
   exact hs i y acc M (fun acc M => Zdr g tt _ ds P ys acc M) (by rw [← e1]; simp [hlt]) hI fun acc' M' hI' => ih (i + 1) acc' M' e2 hlt hI'
 exact key xs 0 [] M rfl (Q4 _) h0
theorem wkT {inst : Decidable (true = true)} {A B : Prop} (h : A) : @ite Prop (true = true) inst A B := by rw [if_pos rfl]; exact h
theorem wkF {inst : Decidable (false = true)} {A B : Prop} (h : B) : @ite Prop (false = true) inst A B := by rw [if_neg Lk]; exact h
instance {inst : Decidable (true = true)} {A B : Prop} : Wg (@ite Prop (true = true) inst A B) A := ⟨wkT⟩
instance {inst : Decidable (false = true)} {A B : Prop} : Wg (@ite Prop (false = true) inst A B) B := ⟨wkF⟩
class Slot (ds : DSt) (i : Nat) (d : outParam D) : Prop where
 e : ds[i]? = some (some d)
instance {ds : DSt} {d : D} : Slot (some d :: ds) 0 d := ⟨rfl⟩
instance {ds : DSt} {x : Option D} {i : Nat} {d : D} [h : Slot ds i d] : Slot (x :: ds) (i + 1) d := ⟨h.e⟩
instance [h : Slot ds i d] : Wg (dVar i ds M Q) (Q d M) := ⟨Zsh h.e⟩
class SetS (ds : DSt) (i : Nat) (x : Option D) (ds' : outParam DSt) : Prop where
 e : ds.set i x = ds'
instance {ds : DSt} {x y : Option D} : SetS (y :: ds) 0 x (x :: ds) := ⟨rfl⟩
instance {ds ds' : DSt} {x y : Option D} {i : Nat} [h : SetS ds i x ds'] : SetS (y :: ds) (i + 1) x (y :: ds') := ⟨by rw [Hk, h.e]⟩
instance (priority := high) {ds' : DSt} {QS : DSt → Mem → Prop} [h : SetS ds i (some d) ds'] : Wg (hName i d ds M QS) (QS ds' M) := ⟨fun q => Zkr (by rw [h.e]; exact q)⟩
class Pur (k : Nat) (ys : List D) (xs : outParam (List PV)) : Prop where
 e : Zat ys = some xs
 l : ys.length ≤ k
instance {k : Nat} : Pur k [] [] := ⟨rfl, Q4 _⟩
instance {k : Nat} {ys : List D} {xs : List PV} {x : PV} [h : Pur k ys xs] : Pur (k + 1) (.v x :: ys) (x :: xs) := ⟨by show (Zat ys).map _ = _; rw [h.e]; rfl, Nat.succ_le_succ h.l⟩
instance {ys : List D} {xs : List PV} {p : List PV → Prop} [h : Pur 40 ys xs] : Wg (∃ xs, Zat ys = some xs ∧ ys.length ≤ sizeLine ∧ p xs) (p xs) := ⟨k_pu h.e (Hb h.l (by decide))⟩
theorem Z2b {n i : Nat} (h : i < n) : ixN n (i : Int) = some i := by
 unfold ixN
 split
 ·split
  ·simp
  ·omega
 ·omega
theorem atI_nat {α : Type} {z : List α} {i : Nat} {x : α} (h : z[i]? = some x) : atI z (i : Int) = some x := by
 unfold atI
 rw [Z2b (Qa.mp h).1]
 exact h
end
abbrev wds (z : List Nat) : List (List Nat) := TL.spl [32] 0 [] z
theorem Zkv (s : List Nat) : ∀ ys : List (List Nat), TL.joinL s ys = glue s ys
 | [] => rfl
 | [x] => rfl
 | x :: y :: r => by
  show x ++ (s ++ TL.joinL s (y :: r)) = x ++ (s ++ glue s (y :: r))
  rw [Zkv s (y :: r)]
theorem Zqs {s : Nat} {r : List Nat} {ps : List (List Nat)} (h : ps ≠ []) (hp : ∀ p ∈ ps, s ∉ p) : TL.spl (s :: r) 0 [] (glue (s :: r) ps) = ps := by
 rw [← Zkv]
 exact TL.spl_join h hp
theorem Ztg (b : List Nat) : ∀ (z : List Nat) (k : Nat) (acc : List Nat), TL.spl b k acc z ≠ []
 | [], k, acc => by rw [TL.spl_nil]; simp
 | c :: z, 0, acc => by
  show (if TL.pre b (c :: z) = true then acc :: TL.spl b (b.length - 1) [] z else TL.spl b 0 (acc ++ [c]) z) ≠ []
  split
  ·simp
  ·exact Ztg b z 0 _
 | c :: z, k + 1, acc => Ztg b z k acc
mutual
def PV.lay : Nat → PV → Bool
 | _, .non | _, .bl _ | _, .int _ => true
 | _, .str z => z.all (· < 1114112)
 | n + 1, .lst xs => PV.layL n xs
 | n + 1, .tup xs => PV.layL n xs
 | _, _ => false
def PV.layL : Nat → List PV → Bool
 | _, [] => true
 | n, x :: xs => PV.lay n x && PV.layL n xs
end
mutual
theorem PV.Zex : ∀ (n : Nat) (x : PV), x.lay n = true → Zgg x = true ∧ (pdat x).canLay0 = true ∧ (pdat x).depth ≤ n
 | n, .non, _ => ⟨rfl, rfl, Q4 _⟩
 | n, .bl _, _ => ⟨rfl, rfl, Q4 _⟩
 | n, .int _, _ => ⟨rfl, rfl, Q4 _⟩
 | n, .str z, h => ⟨rfl, by
   cases n <;> (
   show ((⟨z⟩ : Array Nat).all (· < 0x110000)) = true
   rw [← Array.all_toList]
   exact h), Q4 _⟩
 | n + 1, .lst xs, h => let ⟨a, b, c⟩ := PV.Zmi n xs h; ⟨a, b, by show PyData.depthAll (Zdm xs) + 1 ≤ n + 1; omega⟩
 | n + 1, .tup xs, h => let ⟨a, b, c⟩ := PV.Zmi n xs h; ⟨a, b, by show PyData.depthAll (Zdm xs) + 1 ≤ n + 1; omega⟩
 | 0, .lst _, h => by cases h
 | 0, .tup _, h => by cases h
 | 0, .obj _ _, h => by cases h
 | n + 1, .obj _ _, h => by cases h
 | 0, .ty _, h => by cases h
 | n + 1, .ty _, h => by cases h
 | 0, .cls _, h => by cases h
 | n + 1, .cls _, h => by cases h
 | 0, .dct _ _, h => by cases h
 | n + 1, .dct _ _, h => by cases h
 | 0, .scr _, h => by cases h
 | n + 1, .scr _, h => by cases h
theorem PV.Zmi : ∀ (n : Nat) (xs : List PV), PV.layL n xs = true → Zku xs = true ∧ PyData.canLayAll0 (Zdm xs) = true ∧ PyData.depthAll (Zdm xs) ≤ n
 | n, [], _ => ⟨rfl, rfl, Q4 _⟩
 | n, x :: xs, h => by
  have h' : (PV.lay n x && PV.layL n xs) = true := by cases n <;> exact h
  obtain ⟨h1, h2⟩ := Hz.mp h'
  obtain ⟨a, b, c⟩ := PV.Zex n x h1
  obtain ⟨a', b', c'⟩ := PV.Zmi n xs h2
  refine ⟨by show (Zgg x && Zku xs) = true; rw [a, a']; rfl, by show ((pdat x).canLay0 && PyData.canLayAll0 (Zdm xs)) = true; rw [b, b']; rfl, ?_⟩
  show max _ _ ≤ n
  omega
end
theorem PV.Zeb {x : PV} (h : x.lay 60 = true) : SeqAt.shaped (pdat x) = true := by
 obtain ⟨_, b, c⟩ := PV.Zex 60 x h
 unfold SeqAt.shaped
 rw [b, decide_eq_true (show (pdat x).depth ≤ 64 by omega)]
 rfl
theorem PV.Zmh (n : Nat) : ∀ xs : List PV, PV.layL n xs = true ↔ ∀ x ∈ xs, x.lay n = true
 | [] => by cases n <;> simp [PV.layL]
 | x :: xs => by
  have e : PV.layL n (x :: xs) = (PV.lay n x && PV.layL n xs) := by cases n <;> rfl
  rw [e, H6, PV.Zmh n xs]
  simp
def eqvP (a b : PV) : Bool := PyData.eqv (pdat a) (pdat b)
mutual
theorem Zol : ∀ (n : Nat) (x : PV), x.lay n = true → PyData.eqv (pdat x) (pdat x) = true
 | n, .non, _ => rfl
 | n, .bl b, _ => by cases b <;> rfl
 | n, .int i, _ => by show (i == i) = true; simp
 | n, .str z, _ => by show (S z == S z) = true; rw [show (S z == S z) = decide (z = z) from SX.S_beq_eq]; simp
 | n + 1, .lst xs, h => Zgj n xs h
 | n + 1, .tup xs, h => Zgj n xs h
 | 0, .lst _, h => by cases h
 | 0, .tup _, h => by cases h
 | 0, .obj _ _, h => by cases h
 | n + 1, .obj _ _, h => by cases h
 | 0, .ty _, h => by cases h
 | n + 1, .ty _, h => by cases h
 | 0, .cls _, h => by cases h
 | n + 1, .cls _, h => by cases h
 | 0, .dct _ _, h => by cases h
 | n + 1, .dct _ _, h => by cases h
 | 0, .scr _, h => by cases h
 | n + 1, .scr _, h => by cases h
theorem Zgj : ∀ (n : Nat) (xs : List PV), PV.layL n xs = true → PyData.eqvAll (Zdm xs) (Zdm xs) = true
 | n, [], _ => rfl
 | n, x :: xs, h => by
  have h' : (PV.lay n x && PV.layL n xs) = true := by cases n <;> exact h
  obtain ⟨h1, h2⟩ := Hz.mp h'
  show (PyData.eqv (pdat x) (pdat x) && PyData.eqvAll (Zdm xs) (Zdm xs)) = true
  rw [Zol n x h1, Zgj n xs h2]
  rfl
end
mutual
def PV.noB : PV → Bool
 | .non | .int _ | .str _ => true
 | .lst xs | .tup xs => PV.noBL xs
 | _ => false
def PV.noBL : List PV → Bool
 | [] => true
 | x :: xs => PV.noB x && PV.noBL xs
end
theorem PV.Zq7 : ∀ xs : List PV, PV.noBL xs = true ↔ ∀ x ∈ xs, x.noB = true
 | [] => by simp [PV.noBL]
 | x :: xs => by
  show (PV.noB x && PV.noBL xs) = true ↔ _
  rw [H6, PV.Zq7 xs]
  simp
mutual
theorem Zvv : ∀ (x y : PV), x.noB = true → y.noB = true → PyData.eqv (pdat x) (pdat y) = true → x = y
 | .non, .non, _, _, _ => rfl
 | .int i, .int j, _, _, h => by
  have e : i = j := by simpa using (show (i == j) = true from h)
  rw [e]
 | .str a, .str b, _, _, h => by
  have h' : (S a == S b) = true := h
  rw [show (S a == S b) = decide (a = b) from SX.S_beq_eq] at h'
  rw [of_decide_eq_true h']
 | .lst xs, .lst ys, h1, h2, h => by rw [Zmm xs ys h1 h2 h]
 | .tup xs, .tup ys, h1, h2, h => by rw [Zmm xs ys h1 h2 h]
 | .non, .int _, _, _, h => by cases h
 | .non, .str _, _, _, h => by cases h
 | .non, .lst _, _, _, h => by cases h
 | .non, .tup _, _, _, h => by cases h
 | .int _, .non, _, _, h => by cases h
 | .int _, .str _, _, _, h => by cases h
 | .int _, .lst _, _, _, h => by cases h
 | .int _, .tup _, _, _, h => by cases h
 | .str _, .non, _, _, h => by cases h
 | .str _, .int _, _, _, h => by cases h
 | .str _, .lst _, _, _, h => by cases h
 | .str _, .tup _, _, _, h => by cases h
 | .lst _, .non, _, _, h => by cases h
 | .lst _, .int _, _, _, h => by cases h
 | .lst _, .str _, _, _, h => by cases h
 | .lst _, .tup _, _, _, h => by cases h
 | .tup _, .non, _, _, h => by cases h
 | .tup _, .int _, _, _, h => by cases h
 | .tup _, .str _, _, _, h => by cases h
 | .tup _, .lst _, _, _, h => by cases h
 | .bl _, _, h, _, _ => by cases h
 | .obj _ _, _, h, _, _ => by cases h
 | .ty _, _, h, _, _ => by cases h
 | .cls _, _, h, _, _ => by cases h
 | .dct _ _, _, h, _, _ => by cases h
 | .scr _, _, h, _, _ => by cases h
 | .non, .bl _, _, h, _ => by cases h
 | .non, .obj _ _, _, h, _ => by cases h
 | .non, .ty _, _, h, _ => by cases h
 | .non, .cls _, _, h, _ => by cases h
 | .non, .dct _ _, _, h, _ => by cases h
 | .non, .scr _, _, h, _ => by cases h
 | .int _, .bl _, _, h, _ => by cases h
 | .int _, .obj _ _, _, h, _ => by cases h
 | .int _, .ty _, _, h, _ => by cases h
 | .int _, .cls _, _, h, _ => by cases h
 | .int _, .dct _ _, _, h, _ => by cases h
 | .int _, .scr _, _, h, _ => by cases h
 | .str _, .bl _, _, h, _ => by cases h
 | .str _, .obj _ _, _, h, _ => by cases h
 | .str _, .ty _, _, h, _ => by cases h
 | .str _, .cls _, _, h, _ => by cases h
 | .str _, .dct _ _, _, h, _ => by cases h
 | .str _, .scr _, _, h, _ => by cases h
 | .lst _, .bl _, _, h, _ => by cases h
 | .lst _, .obj _ _, _, h, _ => by cases h
 | .lst _, .ty _, _, h, _ => by cases h
 | .lst _, .cls _, _, h, _ => by cases h
 | .lst _, .dct _ _, _, h, _ => by cases h
 | .lst _, .scr _, _, h, _ => by cases h
 | .tup _, .bl _, _, h, _ => by cases h
 | .tup _, .obj _ _, _, h, _ => by cases h
 | .tup _, .ty _, _, h, _ => by cases h
 | .tup _, .cls _, _, h, _ => by cases h
 | .tup _, .dct _ _, _, h, _ => by cases h
 | .tup _, .scr _, _, h, _ => by cases h
theorem Zmm : ∀ (xs ys : List PV), PV.noBL xs = true → PV.noBL ys = true → PyData.eqvAll (Zdm xs) (Zdm ys) = true → xs = ys
 | [], [], _, _, _ => rfl
 | [], _ :: _, _, _, h => by cases h
 | _ :: _, [], _, _, h => by cases h
 | x :: xs, y :: ys, h1, h2, h => by
  obtain ⟨a1, a2⟩ := Hz.mp (show (PV.noB x && PV.noBL xs) = true from h1)
  obtain ⟨b1, b2⟩ := Hz.mp (show (PV.noB y && PV.noBL ys) = true from h2)
  obtain ⟨c1, c2⟩ := Hz.mp (show (PyData.eqv (pdat x) (pdat y) && PyData.eqvAll (Zdm xs) (Zdm ys)) = true from h)
  rw [Zvv x y a1 b1 c1, Zmm xs ys a2 b2 c2]
end
theorem Zya {x y : PV} (hx : x.lay 60 = true) (h1 : x.noB = true) (h2 : y.noB = true) : eqvP x y = true ↔ x = y := ⟨Zvv x y h1 h2, fun h => h ▸ Zol 60 x hx⟩
section
variable {M : Mem} {Q : DQ}
theorem Z8s {a b : PV} (e : eqP a b = none) (ha : a.lay 60 = true) (hb : b.lay 60 = true) (h : Q (vB (eqvP a b)) M) : uEq (.v a) (.v b) M Q := ⟨a, b, rfl, rfl, Or.inr ⟨e, (PV.Zex _ _ ha).1, (PV.Zex _ _ hb).1, PV.Zeb ha, PV.Zeb hb, h⟩⟩
theorem Z8j {a b : PV} (e : eqP a b = none) (ha : a.lay 60 = true) (hb : b.lay 60 = true) (h : Q (vB (!eqvP a b)) M) : uNe (.v a) (.v b) M Q := ⟨a, b, rfl, rfl, Or.inr ⟨e, (PV.Zex _ _ ha).1, (PV.Zex _ _ hb).1, PV.Zeb ha, PV.Zeb hb, h⟩⟩
def asc3 (zs : List (List Nat)) : Prop := ∀ z ∈ zs, ∀ c ∈ z, c < 1114112
theorem Zfj {zs : List (List Nat)} (h : asc3 zs) : (PV.lst (zs.map PV.str)).lay 60 = true := by
 show PV.layL 59 _ = true
 rw [PV.Zmh]
 intro x hx
 obtain ⟨z, hz, rfl⟩ := Qs.mp hx
 show z.all (· < 1114112) = true
 rw [Q6]
 exact fun c hc => decide_eq_true (h z hz c hc)
theorem Zq6 (zs : List (List Nat)) : (PV.lst (zs.map PV.str)).noB = true := by
 show PV.noBL _ = true
 rw [PV.Zq7]
 intro x hx
 obtain ⟨z, hz, rfl⟩ := Qs.mp hx
 rfl
theorem Zwz {xs ys : List (List Nat)} (h : xs.map PV.str = ys.map PV.str) : xs = ys := by
 induction xs generalizing ys with
 | nil => cases ys with
  | nil => rfl
  | cons y ys => cases h
 | cons x xs ih => cases ys with
  | nil => cases h
  | cons y ys =>
   have h1 := (Hs h).1
   have h2 := (Hs h).2
   cases h1
   rw [ih h2]
theorem Zhq {xs ys : List (List Nat)} (hx : asc3 xs) : eqvP (.lst (xs.map PV.str)) (.lst (ys.map PV.str)) = decide (xs = ys) := by
 rw [Hm, Zya (Zfj hx) (Zq6 _) (Zq6 _), decide_eq_true_iff]
 exact ⟨fun h => Zwz (PV.lst.inj h), fun h => by rw [h]⟩
theorem Zvg {xs ys : List PV} {as bs : List (List Nat)} (ex : xs = as.map PV.str) (ey : ys = bs.map PV.str) (ha : asc3 as) (hb : asc3 bs) (h : Q (vB (decide (as = bs))) M) : uEq (vL xs) (vL ys) M Q := by
 subst ex ey
 exact Z8s rfl (Zfj ha) (Zfj hb) (by rw [Zhq ha]; exact h)
theorem Z5h {xs ys : List PV} {as bs : List (List Nat)} (ex : xs = as.map PV.str) (ey : ys = bs.map PV.str) (ha : asc3 as) (hb : asc3 bs) (h : Q (vB (!decide (as = bs))) M) : uNe (vL xs) (vL ys) M Q := by
 subst ex ey
 exact Z8j rfl (Zfj ha) (Zfj hb) (by rw [Zhq ha]; exact h)
end
section
variable {S' : Sc}
def Zm5 : DM := fun x xs M Q => ∃ a b : List Nat, x = vS a ∧ xs = [vS b] ∧ b ≠ [] ∧ b.all (· < 256) = true ∧ a.length + 2 ≤ sizeLine ∧ Q (vL ((TL.spl b 0 [] a).map PV.str)) M
theorem Zqt : SimM S' Zqm Zm5 := fun c M x dx vs ds Q Qd ok rx rv0 q po => by
 obtain ⟨a, b, rfl, rfl, h1, h2, h3, q⟩ := q
 obtain ⟨v, rfl, rv⟩ := ld1 rv0
 cases (show x = sv a from rx)
 cases (show v = sv b from rv)
 exact ⟨a, b, rfl, rfl, h1, h2, h3, fun p hp => Zdz ok po hp (A2.of_map (R := Rp S'.K S'.cs c.F) (f := PV.str) (g := sv) (fun _ => rfl) _).rpL q⟩
theorem Zu6 {M : Mem} {Q : DQ} {a b : List Nat} (h1 : b ≠ []) (h2 : b.all (· < 256) = true) (h3 : a.length + 2 ≤ sizeLine) (h : Q (vL ((TL.spl b 0 [] a).map PV.str)) M) : Zm5 (vS a) [vS b] M Q := ⟨a, b, rfl, rfl, h1, h2, h3, h⟩
def Z0o (b : Bool) : DR2 := fun x y M Q => ∃ a xs, x = .v a ∧ (y = vL xs ∨ y = vT xs) ∧ a.lay 59 = true ∧ PV.layL 59 xs = true ∧ Q (vB (b != xs.any fun z => eqvP z a)) M
theorem Zzk : ∀ {n : Nat} {x : PV}, x.lay n = true → Zgg x = true ∧ (n ≤ 64 → SeqAt.shaped (pdat x) = true) := fun {n x} h => by
 obtain ⟨a, b, c⟩ := PV.Zex n x h
 refine ⟨a, fun hn => ?_⟩
 unfold SeqAt.shaped
 rw [b, decide_eq_true (show (pdat x).depth ≤ 64 by omega)]
 rfl
theorem Zrw (a : PV) : ∀ xs : List PV, (Zdm xs).any (fun z => PyData.eqv z (pdat a)) = xs.any fun z => eqvP z a
 | [] => rfl
 | x :: xs => by
  show (PyData.eqv (pdat x) (pdat a) || _) = (eqvP x a || _)
  rw [Zrw a xs]
  rfl
theorem Ztl (b : Bool) : SimO S' (Zxd S'.K b) (Z0o b) := fun c M x y dx dy Q Qd ok rx ry q po => by
 obtain ⟨a, xs, rfl, hy, h1, h2, q⟩ := q
 have hx := Zzk h1
 have hl : (PV.lst xs).lay 60 = true := h2
 have hl' := Zzk hl
 refine ⟨pdat a, Zdm xs, Rp.dp ok.rl.same a x hx.1 rx, ?_, hx.2 (by decide), hl'.2 (by decide), po_v ok po (d := vB _) rfl ?_⟩
 ·rcases hy with rfl | rfl
  ·exact Or.inl (Rp.dp ok.rl.same (.lst xs) y hl'.1 ry)
  ·exact Or.inr (Rp.dp ok.rl.same (.tup xs) y hl'.1 ry)
 ·rw [Zrw]
  exact q
def Zo4 (kvs : List (List Nat × Int)) : D → Mem → DQ → Prop := fun x M Q => ∃ z, x = vS z ∧ Q (vB (!(lkT kvs z).isSome)) M
def Z0p (kvs : List (List Nat × Int)) : D → Mem → DQ → Prop := fun x M Q => ∃ z i, x = vS z ∧ lkT kvs z = some i ∧ Q (vI i) M
variable {ta tb : TE} {da db : DE}
theorem Zkm {kvs : List (List Nat × Int)} {p : Addr} (ha : SimE S' ta da) : SimE S' (tOp (Zl5 kvs p) ta (tC (.ref p))) (dUn (Zo4 kvs) da) := fun c M σ ds Q Qd ok rs q po =>
 ha c M σ ds _ _ ok rs q fun c1 M1 v1 d1 s1 r1 p1 ⟨z, e, q1⟩ => by
  subst e
  cases (show v1 = sv z from p1)
  exact ⟨z, rfl, rfl, po c1 M1 _ (vB _) s1 r1 rfl q1⟩
theorem Zqv {kvs : List (List Nat × Int)} {p : Addr} (hb : SimE S' tb db) : SimE S' (tOp (rIxT kvs p) (tC (.ref p)) tb) (dUn (Z0p kvs) db) := fun c M σ ds Q Qd ok rs q po =>
 hb c M σ ds _ _ ok rs q fun c1 M1 v1 d1 s1 r1 p1 ⟨z, i, e, h, q1⟩ => by
  subst e
  cases (show v1 = sv z from p1)
  exact ⟨z, i, rfl, rfl, h, po c1 M1 _ (vI i) s1 r1 rfl q1⟩
end
section
variable {M : Mem} {Q : DQ} {a b c d : List Nat} {r : List (List Nat)}
theorem Zxx {xs : List PV} {i : Nat} {y : PV} (e : xs[i]? = some y) (h : Q (.v y) M) : uIx (vL xs) (vI (i : Int)) M Q := Ziz (atI_nat e) h
theorem Zve (h : Q (vS a) M) : uIx (vL (List.map PV.str (a :: r))) (.v (.int 0)) M Q := Zxx (i := 0) rfl h
theorem Zvd (h : Q (vS b) M) : uIx (vL (List.map PV.str (a :: b :: r))) (.v (.int 1)) M Q := Zxx (i := 1) rfl h
theorem Zvc (h : Q (vS c) M) : uIx (vL (List.map PV.str (a :: b :: c :: r))) (.v (.int 2)) M Q := Zxx (i := 2) rfl h
theorem Zvb (h : Q (vS d) M) : uIx (vL (List.map PV.str (a :: b :: c :: d :: r))) (.v (.int 3)) M Q := Zxx (i := 3) rfl h
end
section
variable {α : Type} {xs : List α} {k : Int} {A B : Prop}
theorem Z0g (h : ¬ (xs.length : Int) = k) (b : B) : if decide ((xs.length : Int) = k) = true then A else B := z_F (decide_eq_false h) b
theorem Z0f (h : (xs.length : Int) = k) (b : A) : if decide ((xs.length : Int) = k) = true then A else B := z_T (decide_eq_true h) b
theorem Zst (h : ¬ (xs.length : Int) = k) (b : A) : if (!decide ((xs.length : Int) = k)) = true then A else B := z_nF (decide_eq_false h) b
theorem Zss (h : (xs.length : Int) = k) (b : B) : if (!decide ((xs.length : Int) = k)) = true then A else B := z_nT (decide_eq_true h) b
theorem Z0i (h : ¬ k < (xs.length : Int)) (b : B) : if decide (k < (xs.length : Int)) = true then A else B := z_F (decide_eq_false h) b
theorem Z0h (h : k < (xs.length : Int)) (b : A) : if decide (k < (xs.length : Int)) = true then A else B := z_T (decide_eq_true h) b
end
section
variable {S : Sc} {te ta tb tf : TE} {da db de df : DE} {tt tu : TT} {dt du : DT} {tr : TA} {dr : DA} {ts us : TS} {dss dus : DS}
def Zjb : DS := fun _ _ _ => False
theorem Znl : SimS S tNever Zjb := fun c M σ ds E Ed ok rs h po => h.elim
def Zp8 (a : DE) (r : DA) : DA := fun ds M Q => a ds M fun x M1 => ∃ ys, sqOf M1 x = some ys ∧ r ds M1 fun zs M2 => Q (ys ++ zs) M2
theorem Zqu (ha : SimE S ta da) (hr : SimA S tr dr) : SimA S (StX.tStar S.K ta tr) (Zp8 da dr) := fun c M σ ds Q Qd ok rs q po =>
 ha c M σ ds _ _ ok rs q fun c1 M1 v1 d1 s1 r1 p1 ⟨ys, h, q1⟩ => by
  obtain ⟨a, vs, rfl, h1, h2⟩ := Zr2 (ok.step s1 r1) p1 h
  exact ⟨a, vs, rfl, h1.symm, hr c1 M1 σ ds _ _ (ok.step s1 r1) (rs.step s1) q1 fun c2 M2 v2 d2 s2 r2 p2 q2 => po c2 M2 _ _ (s1.trans s2) r2 ((Sc.Ld.step h2 s2).append p2) q2⟩
def Zgw (k : Cn) (g : DSp) (Ed : DX) (f : DE) (a : DA) : DE := fun ds M Q => f ds M fun y M0 => y = .v (.cls k) ∧ a ds M0 fun xs M1 => ∃ al ps, xs = al :: ps.map D.v ∧ ps.length ≤ sizeLine ∧
 g [.cell M1.length, al, .v (.tup ps)] (M1 ++ [some (.obj k [])]) (mkQ k M1 Q) (Zbf M1 Ed)
theorem Znm {k : Cn} {g : DSp} {E : XK} {Ed : DX} (hk : k ∈ S.cs) (px : PoX S S.c0 S.M0 Ed E) (hf : SimE S tf df) (ha : SimA S tr dr) : SimE S (Ze6 (ga S.K k.str) (Zh5 2 (spD S.K S.cs g)) E tf tr) (Zgw k g Ed df dr) := fun c M σ ds Q Qd ok rs q po =>
 hf c M σ ds _ _ ok rs q fun c0 M0 v0 d0 s0 r0 p0 ⟨e0, q0⟩ => by
  subst e0
  refine ⟨p0, ha c0 M0 σ ds _ _ (ok.step s0 r0) (rs.step s0) q0 fun c1 M1 v1 d1 s1 r1 p1 ⟨al, ps, e, hl, q1⟩ => ?_⟩
  intro x dx hx hdx ne
  subst e
  have ok1 := (ok.step s0 r0).step s1 r1
  cases p1 with
  | @cons _ va _ vr pa pr =>
   have hvl : vr.length ≤ sizeLine := by rw [← pr.len, Qb]; exact hl
   refine ⟨[V.ref x, va], vr, rfl, rfl, hvl, fun p hp => ?_⟩
   obtain ⟨r2, s2⟩ := r1.newo hk hx hdx ne
   obtain ⟨r2', s2'⟩ := r2.lay hp (.tup vr)
   have st := s2.trans s2'
   have get : (c1.ρ ++ [x])[M1.length]? = some x := by rw [← r1.len]; simp
   have pr2 : RpL S.K S.cs c1.F ps vr := Zbu pr (Zbg ps)
   refine ⟨⟨upd c1.F p (.tup vr), c1.ρ ++ [x], upd (upd (upd c1.H dx (.own x)) x (.ins (ga S.K k.str) dx [])) p (.tup vr)⟩, M1 ++ [some (.obj k [])], [.cell M1.length, al, .v (.tup ps)], _, _, rfl, r2', .cons ⟨x, get, rfl⟩ (.cons (Sc.Vd.step (S := S) pa st) (.cons ⟨p, vr, rfl, .inl (.inl upd_same), RpL.same st.same _ _ pr2⟩ .nil)), q1, fun c3 M3 v3 d3 s3 r3 p3 ⟨e3, ys, zs, m3, hp3, hex, q3⟩ => ?_, fun c3 M3 cls d e s3 r3 p3 ⟨hex, q3⟩ => ?_⟩
   ·subst e3
    cases (show v3 = .non from p3)
    refine ⟨rfl, ?_⟩
    have e3 : c3.ρ[M1.length]? = some x := Zey s3.pre get
    obtain ⟨o, h1, h2, h3, r4, s4⟩ := r3.freeze e3 m3
    obtain ⟨dx', vs', rfl, h5, h6, h7⟩ := h2
    obtain ⟨r5, s5, e5⟩ := r1.cut r4 (st.trans (s3.trans s4)) hex
    refine po ⟨upd c3.F x (.ins (ga S.K k.str) dx' (fz k vs')), c3.ρ.take M1.length, c3.H⟩ _ (.ref x) (.v (.obj k zs)) ((s0.trans s1).trans s5) r5 ?_ q3
    refine ⟨x, dx', vs', rfl, upd_same, hk, ?_, RpL.same (Za3 h3) _ _ (Zbu h7 hp3)⟩
    rw [Zdl hp3] at h6
    simpa using h6
   ·obtain ⟨r5, s5, e5⟩ := r1.cut r3 (st.trans s3) hex
    exact px ⟨c3.F, c3.ρ.take M1.length, c3.H⟩ _ cls d e (ok1.st.trans s5) r5 p3 q3
def uNeO (k : Cn) (g : DSp) : DR2 := fun x y M Q => ∃ xs ys, obOf M x = some (k, xs) ∧ obOf M y = some (k, ys) ∧ g [x, y] M (fun d M' => ∃ b, d = vB b ∧ Q (vB (!b)) M') noX
theorem Zti {k : Cn} {g : DSp} : SimO S (rNeI (ga S.K k.str) (spD S.K S.cs g) E0) (uNeO k g) := fun c M x y dx dy Q Qd ok rx ry ⟨xs, ys, h1, h2, q⟩ po => by
 obtain ⟨a, dx', vs, rfl, g1, _⟩ := Zn3 ok rx h1
 obtain ⟨b, dy', ws, rfl, g2, _⟩ := Zn3 ok ry h2
 refine ⟨a, b, dx', dy', _, _, rfl, rfl, g1, g2, c, M, _, _, noX, rfl, ok.rl, .cons rx (.cons ry .nil), q, fun c' M' v d s r p ⟨k', e, q'⟩ => ?_, fun _ _ _ _ _ _ _ _ q => q.elim⟩
 subst e
 cases (show v = .bl k' from p)
 exact ⟨k', rfl, po c' M' _ (vB (!k')) s r rfl q'⟩
def Z0k (C : Addr) (sp : Sp) (E : XK) : List V → Hp → VK → Prop := fun xs H Q => ∃ a dx fs, xs = [.ref a] ∧ H a = some (.ins C dx fs) ∧ sp [.ref a] H (fun v H' => ∃ n : Int, v = .int n ∧ (0 ≤ n ∧ n < 2 ^ 63) ∧ Q (.int n) H') E
def Z0n (k : Cn) (g : DSp) : DR := fun xs M Q => ∃ x ys, xs = [x] ∧ obOf M x = some (k, ys) ∧ g [x] M (fun d M' => ∃ n : Nat, d = vI n ∧ n < 2 ^ 62 ∧ Q (vI n) M') noX
theorem Ztd {k : Cn} {g : DSp} : SimR S (Z0k (ga S.K k.str) (spD S.K S.cs g) E0) (Z0n k g) := fun c M vs ds Q Qd ok r ⟨x, ys, e, h, q⟩ po => by
 subst e
 cases r with
 | cons r0 t =>
  cases t
  obtain ⟨a, dx', vs, rfl, g1, _⟩ := Zn3 ok r0 h
  refine ⟨a, dx', _, rfl, g1, c, M, _, _, noX, rfl, ok.rl, .cons r0 .nil, q, fun c' M' v d s r p ⟨n, e, hn, q'⟩ => ?_, fun _ _ _ _ _ _ _ _ q => q.elim⟩
  subst e
  cases (show v = .int n from p)
  exact ⟨n, rfl, ⟨by omega, by omega⟩, po c' M' _ (vI n) s r rfl q'⟩
def Zor (k : Cn) (g : DSp) (Ed : DX) (o : DE) (a : DA) : DE := fun ds M Q => o ds M fun x M1 => x = .v (.cls k) ∧ a ds M1 fun xs M2 => g (.v (.cls k) :: xs) M2 Q Ed
theorem Znp {k : Cn} {g : DSp} {E : XK} {Ed : DX} (px : PoX S S.c0 S.M0 Ed E) (ho : SimE S tb db) (ha : SimA S tr dr) : SimE S (tCMeth (ga S.K k.str) (fun vs => spD S.K S.cs g (vs ++ [])) E tb tr) (Zor k g Ed db dr) := fun c M σ ds Q Qd ok rs q po =>
 ho c M σ ds _ _ ok rs q fun c0 M0 v0 d0 s0 r0 p0 ⟨e0, q0⟩ => by
  subst e0
  refine ⟨p0, ha c0 M0 σ ds _ _ (ok.step s0 r0) (rs.step s0) q0 fun c1 M1 v1 d1 s1 r1 p1 q1 => ?_⟩
  show spD S.K S.cs _ (V.ref _ :: v1 ++ []) c1.H Q E
  rw [Qv]
  exact Zkh ((ok.step s0 r0).step s1 r1) (.cons (show RpD S.K S.cs c1.F c1.ρ (.v (.cls k)) _ from rfl) p1) q1 (po.step (s0.trans s1)) px
def Zrq (a : DE) : DE := fun ds M Q => a ds M fun x M1 => (∃ ps, x = .v (.tup ps) ∧ Q (vT ps) M1) ∨ ∃ ys ps, lsOf M1 x = some ys ∧ Zat ys = some ps ∧ Q (vT ps) M1
theorem Znj (ha : SimE S ta da) : SimE S (tThen ta (kTup S.K)) (Zrq da) := fun c M σ ds Q Qd ok rs q po =>
 ha c M σ ds _ _ ok rs q fun c1 M1 v1 d1 s1 r1 p1 q1 => by
  rcases q1 with ⟨ps, e, q1⟩ | ⟨ys, ps, h, hp, q1⟩
  ·subst e
   have p1' := p1
   obtain ⟨a, vs, rfl, h1, h2⟩ := p1'
   exact Or.inr ⟨a, vs, rfl, Same.seqT r1.same h1, po c1 M1 _ _ s1 r1 p1 q1⟩
  ·obtain ⟨a, vs, rfl, h1, h2⟩ := Zse (ok.step s1 r1) p1 h
   refine Or.inl ⟨a, vs, rfl, Zen h1, fun p hp0 => ?_⟩
   obtain ⟨r2, s2⟩ := r1.lay hp0 (.tup vs)
   exact po _ _ _ (vT ps) (s1.trans s2) r2 ⟨p, vs, rfl, .inl (.inl upd_same), RpL.same s2.same _ _ (Zbu h2 hp)⟩ q1
end
section
variable {a o f : DE} {r : DA} {ds : DSt} {M : Mem} {Q : DQ} {QA : List D → Mem → Prop}
theorem Z5c (h : a ds M fun x M1 => ∃ ys, sqOf M1 x = some ys ∧ r ds M1 fun zs M2 => QA (ys ++ zs) M2) : Zp8 a r ds M QA := h
instance : Wg (Zp8 a r ds M QA) (a ds M fun x M1 => ∃ ys, sqOf M1 x = some ys ∧ r ds M1 fun zs M2 => QA (ys ++ zs) M2) := ⟨Z5c⟩
theorem Z13 {k : Cn} {g : DSp} {X : DX} (h : f ds M fun y M0 => y = .v (.cls k) ∧ r ds M0 fun xs M1 => ∃ al ps, xs = al :: ps.map D.v ∧ ps.length ≤ sizeLine ∧ g [.cell M1.length, al, .v (.tup ps)] (M1 ++ [some (.obj k [])]) (mkQ k M1 Q) (Zbf M1 X)) : Zgw k g X f r ds M Q := h
instance {k : Cn} {g : DSp} {X : DX} : Wg (Zgw k g X f r ds M Q) (f ds M fun y M0 => y = .v (.cls k) ∧ r ds M0 fun xs M1 => ∃ al ps, xs = al :: ps.map D.v ∧ ps.length ≤ sizeLine ∧ g [.cell M1.length, al, .v (.tup ps)] (M1 ++ [some (.obj k [])]) (mkQ k M1 Q) (Zbf M1 X)) := ⟨Z13⟩
theorem Z17 {k : Cn} {g : DSp} {X : DX} (h : o ds M fun x M1 => x = .v (.cls k) ∧ r ds M1 fun xs M2 => g (.v (.cls k) :: xs) M2 Q X) : Zor k g X o r ds M Q := h
instance {k : Cn} {g : DSp} {X : DX} : Wg (Zor k g X o r ds M Q) (o ds M fun x M1 => x = .v (.cls k) ∧ r ds M1 fun xs M2 => g (.v (.cls k) :: xs) M2 Q X) := ⟨Z17⟩
theorem Z1y (h : a ds M fun x M1 => (∃ ps, x = .v (.tup ps) ∧ Q (vT ps) M1) ∨ ∃ ys ps, lsOf M1 x = some ys ∧ Zat ys = some ps ∧ Q (vT ps) M1) : Zrq a ds M Q := h
instance : Wg (Zrq a ds M Q) (a ds M fun x M1 => (∃ ps, x = .v (.tup ps) ∧ Q (vT ps) M1) ∨ ∃ ys ps, lsOf M1 x = some ys ∧ Zat ys = some ps ∧ Q (vT ps) M1) := ⟨Z1y⟩
theorem Z43 {ps : List PV} {P : List PV → Prop} {R : Prop} (h : P ps) : (∃ qs, vT ps = .v (.tup qs) ∧ P qs) ∨ R := Or.inl ⟨ps, rfl, h⟩
instance {ps : List PV} {P : List PV → Prop} {R : Prop} : Wg ((∃ qs, vT ps = .v (.tup qs) ∧ P qs) ∨ R) (P ps) := ⟨Z43⟩
theorem k_cls {k : Cn} {p : Prop} (h : p) : D.v (.cls k) = D.v (.cls k) ∧ p := ⟨rfl, h⟩
instance {k : Cn} {p : Prop} : Wg (D.v (.cls k) = D.v (.cls k) ∧ p) (p) := ⟨k_cls⟩
end
theorem Zw9 {E : XK} {C : Addr} {f g : Str} {v u : V} {D : Ends} {σ : L2.St} {H : Hp} (h : ∀ d, H d = none → E (.ref C) (some d) (upd H d (.xd [(g, u), (f, v)]))) : Zc2 E C (spX2 C f g) (tCons (tC v) (tCons (tC u) tNil)) D σ H := by
 refine ⟨by show 2 ≤ 1000; decide, fun a ha => ⟨a, v, u, rfl, upd_same, fun d hd ne => ⟨rfl, d, _, by rw [upd_ne (Ne.symm ne), upd_same], upd_same, (Zfn hd).1, ?_⟩⟩⟩
 obtain ⟨h1, _⟩ := Zfn hd
 have e : upd (del (upd (upd (upd (upd H a (exo a C none)) d (exd d [(f, v)])) a (exo a C (some d))) d (exd d [(g, u), (f, v)])) a) d (.xd [(g, u), (f, v)]) = upd H d (.xd [(g, u), (f, v)]) := by
  funext b
  by_cases hb : b = d
  ·rw [hb, upd_same, upd_same]
  ·rw [upd_ne hb, upd_ne hb]
   by_cases hc : b = a
   ·rw [hc, del_same, ha]
   ·rw [del_ne hc, upd_ne hb, upd_ne hc, upd_ne hb, upd_ne hc]
 show E (.ref C) (some d) _
 rw [e]
 exact h d h1
section
variable {S : Sc} {tr : TA} {dr : DA}
def Zms (k : Cn) (Ed : DX) (a : DA) : DS := fun _ ds M => a ds M fun xs M1 => ∃ x y, xs = [.v x, .v y] ∧ Ed ⟨k, [y, x]⟩ M1
theorem Zkk {k : Cn} {f g : Fd} {E : XK} {Ed : DX} (hf : k.flds = [g, f]) (px : PoX S S.c0 S.M0 Ed E) (ha : SimA S tr dr) : SimS S (Zc2 E (ga S.K k.str) (spX2 (ga S.K k.str) f.str g.str) tr) (Zms k Ed dr) := fun c M σ ds D' Dd ok rs q po =>
 ha c M σ ds _ _ ok rs q fun c1 M1 v1 d1 s1 r1 p1 ⟨x, y, e, q1⟩ => by
  subst e
  obtain ⟨v, u, rfl, rv, ru⟩ := ld2 p1
  have key := Zw9 (E := E) (C := ga S.K k.str) (f := f.str) (g := g.str) (v := v) (u := u) (D := D') (σ := σ) (H := c1.H) fun d hd => by
   obtain ⟨r2, s2⟩ := r1.lay hd (.xd [(g.str, u), (f.str, v)])
   refine px ⟨upd c1.F d (.xd [(g.str, u), (f.str, v)]), c1.ρ, upd c1.H d (.xd [(g.str, u), (f.str, v)])⟩ M1 _ _ ⟨k, [y, x]⟩ ((ok.step s1 r1).st.trans s2) r2 ⟨rfl, d, [u, v], rfl, ?_, _, _, rfl, Rp.same s2.same _ _ ru, _, _, rfl, Rp.same s2.same _ _ rv, rfl⟩ q1
   show upd c1.F d _ d = _
   rw [upd_same]
   show _ = some (HO.xd ((k.flds.map Fd.str).zip [u, v]))
   rw [hf]
   rfl
  exact key
theorem Zxu {k : Cn} {X : DX} {r : DA} {E : Zd8} {ds : DSt} {M : Mem} (h : r ds M fun xs M1 => ∃ x y, xs = [.v x, .v y] ∧ X ⟨k, [y, x]⟩ M1) : Zms k X r E ds M := h
instance {k : Cn} {X : DX} {r : DA} {E : Zd8} {ds : DSt} {M : Mem} : Wg (Zms k X r E ds M) (r ds M fun xs M1 => ∃ x y, xs = [.v x, .v y] ∧ X ⟨k, [y, x]⟩ M1) := ⟨Zxu⟩
def tMk0 (C : Addr) : L2.St → Hp → XK → Prop := fun _ H Q => Q (.ref C) none H
def Zs5 (E : XK) (C : Addr) : TS := fun _ σ H => tMk0 C σ H fun cls d H' => E cls d H'
theorem Zxe {X : Cx} {C : Addr} {bmB : List Value} {B newId initId : String} {x : Str} {p pos : Pos} (F : ExcBaseFacts B newId initId bmB) (q : PySem.W.excIn X.K C bmB newId = true) (gC : X.mg x = some (.ref C))
  (kC : PySem.W.keepIn X.K (.ref C) = true) (r : Raises X (.ref C)) (hg : Gl X x) (hdb : (x == ("__debug__" : Str)) = false := by decide) :
  PMk X (.Call (.Name x p) [] [] pos) (tMk0 C) := by
 intro pins s σ H Q I h
 refine wpAny_Call_Name_kw (ld_glob I hg gC ?_ hdb)
 refine PySem.W.callWith_K0 I.kIn kC ?_
 obtain ⟨bm, N, nm, qn, bs, hdct, sn, sub, ab, col, dd, k0, k1, k2, k3, k5, mN, hC, hN, hni, T⟩ := exc_obj I.kIn q
 refine wpAny_call_exc_subT F T hC hN hni (fun h' e hm => ?_) (by show 0 ≤ sizeLine; omega)
 exact mk_of I hm r h (I.hok.gone hm.new)
def Zmt (k : Cn) (Ed : DX) : DS := fun _ _ M => Ed ⟨k, []⟩ M
theorem Zkl {k : Cn} {E : XK} {Ed : DX} (px : PoX S S.c0 S.M0 Ed E) : SimS S (Zs5 E (ga S.K k.str)) (Zmt k Ed) := fun c M σ ds D' Dd ok rs q po => px c M _ _ ⟨k, []⟩ ok.st ok.rl ⟨rfl, rfl⟩ q
theorem Zxv {k : Cn} {X : DX} {E : Zd8} {ds : DSt} {M : Mem} (h : X ⟨k, []⟩ M) : Zmt k X E ds M := h
instance {k : Cn} {X : DX} {E : Zd8} {ds : DSt} {M : Mem} : Wg (Zmt k X E ds M) (X ⟨k, []⟩ M) := ⟨Zxv⟩
end
def gm1 (c : Cn) (g : DSp) : Cn → Option DSp := fun k => if k = c then some g else none
theorem Zz4 {c k : Cn} {g q : DSp} (h : gm1 c g k = some q) : k = c ∧ q = g := by
 unfold gm1 at h
 by_cases e : k = c
 ·rw [if_pos e] at h
  exact ⟨e, (Qx h).symm⟩
 ·rw [if_neg e] at h
  cases h
theorem gn1 {c : Cn} {g : DSp} {m : Str} (h : (c.flds.all fun f => decide (f.str ≠ m)) = true) : ∀ k, (gm1 c g k).isSome = true → ∀ f ∈ k.flds, f.str ≠ m := fun k q f hf => by
 obtain ⟨z, hz⟩ := Option.isSome_iff_exists.mp q
 obtain ⟨rfl, _⟩ := Zz4 hz
 exact of_decide_eq_true (Q6.mp h f hf)
theorem Z8p {c : Cn} {g : DSp} {M : Mem} {xs : List PV} {p : DSp → Prop} (h : p g) : ∃ k ys sp, obOf M (.v (.obj c xs)) = some (k, ys) ∧ gm1 c g k = some sp ∧ p sp := ⟨c, _, g, rfl, if_pos rfl, h⟩
instance {c : Cn} {g : DSp} {M : Mem} {xs : List PV} {p : DSp → Prop} : Wg (∃ k ys sp, obOf M (.v (.obj c xs)) = some (k, ys) ∧ gm1 c g k = some sp ∧ p sp) (p g) := ⟨Z8p⟩
theorem k_fo {M : Mem} {c : Cn} {xs : List PV} {f : Fd} {y : PV} {p : D → Prop} (e : xs[c.ix f]? = some y) (h : p (.v y)) : ∃ k ys y, obOf M (.v (.obj c xs)) = some (k, ys) ∧ ys[k.ix f]? = some y ∧ p y :=
 ⟨c, _, .v y, rfl, by rw [Ql, e]; rfl, h⟩
theorem Zmk {M : Mem} {i : Nat} {xs : List PV} (m : M[i]? = some (some (.lst (xs.map D.v)))) : frz M (.cell i) = some (.lst xs, M.set i none) := by
 show (match M[i]? with
  | some (some (.lst ds)) => (Zat ds).map fun xs => (PV.lst xs, M.set i none)
  | some (some (.obj k ds)) => (Zat ds).map fun xs => (PV.obj k xs, M.set i none)
  | _ => none) = _
 rw [m]
 show (Zat (xs.map D.v)).map _ = _
 rw [Zbg]
 rfl
section
variable {S : Sc} {te ta tb tf : TE} {da db de df : DE} {tt : TT} {dt : DT} {tr : TA} {dr : DA}
def Zej (g : DG) (t : DT) (e : DE) (ds0 : DSt) (L : Nat) (Q : Mem → Prop) : List D → Mem → Prop
 | [], M => Q M
 | x :: xs, M => g x ds0 M fun ds2 M2 => t ds2 M2 fun b M3 => if b = true then e ds2 M3 fun y M4 => ∃ acc, M4[L]? = some (some (.lst acc)) ∧ acc.length < sizeLine ∧ Zej g t e ds0 L Q xs (M4.set L (some (.lst (acc ++ [y])))) else Zej g t e ds0 L Q xs M3
def dLcC (it : DI) (g : DG) (t : DT) (e : DE) (vs : List Nat) : DE := fun ds M Q => it ds M fun xs M1 => Zej g t e (Zbl ds vs) M1.length (fun M2 => Q (.cell M1.length) M2) xs (M1 ++ [some (.lst [])])
theorem Zts {ti : TI} {di : DI} {g : TG} {dg : DG} {vs : List Nat} (own : GOwn g vs) (hi : SimI S ti di) (hg : SimG S g dg) (ht : SimT S tt dt) (he : SimE S te de) : SimE S (tLc ti g tt te vs) (dLcC di dg dt de vs) := fun c M σ ds Q Qd ok rs q po =>
 hi c M σ ds _ _ ok rs q fun c1 M1 J xs s1 r1 wk q1 => by
  intro P hP
  have ok1 := ok.step s1 r1
  obtain ⟨r2, s2⟩ := r1.newc hP (x := .lst []) (o := .lst []) ⟨[], rfl, .nil⟩
  have rs1 := rs.step s1
  have get0 : (c1.ρ ++ [P])[M1.length]? = some P := by rw [← r1.len]; simp
  refine ⟨fun i m H' => ∃ c2 M2, c2.H = H' ∧ m = xs.length - i ∧ i ≤ xs.length ∧ Step ⟨c1.F, c1.ρ ++ [P], upd c1.H P (.lst [])⟩ (M1 ++ [some (.lst [])]) c2 M2 ∧ Rel S.K S.cs c2 M2 ∧ Zej dg dt de (Zbl ds vs) M1.length (fun M2 => Qd (.cell M1.length) M2) (xs.drop i) M2,
   ⟨xs.length, ⟨c1.F, c1.ρ ++ [P], upd c1.H P (.lst [])⟩, _, rfl, rfl, Q4 _, Step.refl _ _, r2, q1⟩, ?_⟩
  rintro i m H' ⟨c3, M3, rfl, rfl, hi, s3, r3, q3⟩
  have s03 := s2.trans s3
  obtain ⟨w1, w2⟩ := wk i c3 M3 s03.same s03.pre r3
  by_cases hlt : i < xs.length
  ·obtain ⟨g1, g2⟩ := w2 xs[i] (by simp [hlt])
   rw [Qu hlt] at q3
   refine Or.inr ⟨g1, fun H'' => ∃ c4 M4, c4.H = H'' ∧ Step ⟨c1.F, c1.ρ ++ [P], upd c1.H P (.lst [])⟩ (M1 ++ [some (.lst [])]) c4 M4 ∧ Rel S.K S.cs c4 M4 ∧ Zej dg dt de (Zbl ds vs) M1.length (fun M2 => Qd (.cell M1.length) M2) (xs.drop (i + 1)) M4,
    fun H'' ⟨c4, M4, e, s4, r4, h4⟩ => ⟨xs.length - (i + 1), by omega, c4, M4, e, rfl, hlt, s4, r4, h4⟩, fun x H'' hy => own _ _ _ _ ?_⟩
   obtain ⟨c4, rfl, s4, r4, p4⟩ := g2 x H'' hy
   have ok3 := (ok1.step s2 r2).step s3 r3
   have rs4 : S.St c4 (Zbl ds vs) (wipe σ vs) := Zhv (((rs1.step s2).step s3).step s4) vs
   refine hg c4 M3 (wipe σ vs) (Zbl ds vs) _ _ _ _ (ok3.step s4 r4) rs4 p4 q3 fun c5 M5 σ5 ds5 s5 r5 p5 q5 => ?_
   have ok5 := (ok3.step s4 r4).step s5 r5
   refine ht c5 M5 σ5 ds5 _ _ ok5 p5 q5 fun c6 M6 b s6 r6 q6 => ?_
   have st6 := s3.trans (s4.trans (s5.trans s6))
   cases b with
   | false => exact ⟨c6, M6, rfl, st6, r6, q6⟩
   | true =>
    refine he c6 M6 σ5 ds5 _ _ (ok5.step s6 r6) (p5.step s6) q6 fun c7 M7 v7 d7 s7 r7 p7 ⟨acc, hm, hl, q7⟩ => ?_
    have st7 := st6.trans s7
    have eP : c7.ρ[M1.length]? = some P := Zey st7.pre get0
    obtain ⟨h1, o, h2, ws, rfl, h3⟩ := r7.live _ P _ eP hm
    obtain ⟨r8, s8⟩ := r7.setc eP hm (y := .lst (acc ++ [d7])) (o := .lst (ws ++ [v7])) ⟨_, rfl, h3.append (.cons p7 .nil)⟩
    exact ⟨ws, h2, by rw [← h3.len]; exact hl, ⟨_, _, _⟩, _, rfl, st7.trans s8, r8, q7⟩
  ·have e : xs.length = i := by omega
   rw [← e, Ht] at q3
   exact Or.inl ⟨w1 e, po c3 M3 (.ref P) (.cell M1.length) (s1.trans s03) r3 ⟨P, Zey s3.pre get0, rfl⟩ q3⟩
theorem Z8k {it : DI} {g : DG} {t : DT} {e : DE} {vs : List Nat} {ds : DSt} {M : Mem} {Q : DQ} (h : it ds M fun xs M1 => Zej g t e (Zbl ds vs) M1.length (fun M2 => Q (.cell M1.length) M2) xs (M1 ++ [some (.lst [])])) : dLcC it g t e vs ds M Q := h
instance {it : DI} {g : DG} {t : DT} {e : DE} {vs : List Nat} {ds : DSt} {M : Mem} {Q : DQ} : Wg (dLcC it g t e vs ds M Q) (it ds M fun xs M1 => Zej g t e (Zbl ds vs) M1.length (fun M2 => Q (.cell M1.length) M2) xs (M1 ++ [some (.lst [])])) := ⟨Z8k⟩
theorem Zv4 {g : DG} {t : DT} {e : DE} {ds : DSt} {L : Nat} {P : Mem → Prop} {xs : List D} {M : Mem} (I : Nat → Mem → Prop) (h0 : I 0 M) (hs : ∀ i x M (N : Mem → Prop), xs[i]? = some x → I i M → (∀ M', I (i + 1) M' → N M') → g x ds M fun ds2 M2 => t ds2 M2 fun b M3 => if b = true then e ds2 M3 fun y M4 => ∃ acc, M4[L]? = some (some (.lst acc)) ∧ acc.length < sizeLine ∧ N (M4.set L (some (.lst (acc ++ [y])))) else N M3)
  (hd : ∀ M, I xs.length M → P M) : Zej g t e ds L P xs M := by
 have key : ∀ (ys : List D) (i : Nat) (M : Mem), xs.drop i = ys → i ≤ xs.length → I i M → Zej g t e ds L P ys M := by
  intro ys
  induction ys with
  | nil =>
   intro i M e hi hI
   have : xs.length ≤ i := Le.mp e
   have : i = xs.length := by omega
   subst this
   exact hd M hI
  | cons y ys ih =>
   intro i M e hi hI
   have hlt : i < xs.length := by
    rcases Gs i xs.length with h | h
    ·exact h
    ·rw [Gy h] at e
     cases e
   rw [Qu hlt] at e
   obtain ⟨e1, e2⟩ := Hs e
   exact hs i y M (fun M => Zej g t _ ds L P ys M) (by rw [← e1]; simp [hlt]) hI fun M' hI' => ih (i + 1) M' e2 hlt hI'
 exact key xs 0 M rfl (Q4 _) h0
end
abbrev DJ := DSt → Mem → ((Mem → Prop) → List D → Mem → Prop) → Prop
def Zfr (G : Mem → Prop) (g : DG) (b : DS) (E : Zd8) : List D → DSt → Mem → Prop
 | [], ds, M => G M ∧ E.nx ds M
 | x :: xs, ds, M => G M ∧ g x ds M fun ds2 M2 => b { E with nx := Zfr G g b E xs, ct := Zfr G g b E xs, bk := E.nx } ds2 M2
def Z9c (it : DJ) (g : DG) (b : DS) : DS := fun E ds M => it ds M fun G xs M1 => Zfr G g b E xs ds M1
def Zrr (G : Mem → Prop) (g : DG) (t : DT) (e : DE) (ds0 : DSt) (Q : List PV → Mem → Prop) : List D → List PV → Mem → Prop
 | [], acc, M => G M ∧ Q acc M
 | x :: xs, acc, M => G M ∧ g x ds0 M fun ds2 M2 => t ds2 M2 fun b M3 => if b = true then e ds2 M3 fun y M4 => ∃ z, y = .v z ∧ acc.length < sizeLine ∧ Zrr G g t e ds0 Q xs (acc ++ [z]) M4 else Zrr G g t e ds0 Q xs acc M3
def Zmv (G : Mem → Prop) (g : DG) (t : DT) (e : DE) (ds0 : DSt) (L : Nat) (Q : Mem → Prop) : List D → Mem → Prop
 | [], M => G M ∧ Q M
 | x :: xs, M => G M ∧ g x ds0 M fun ds2 M2 => t ds2 M2 fun b M3 => if b = true then e ds2 M3 fun y M4 => ∃ acc, M4[L]? = some (some (.lst acc)) ∧ acc.length < sizeLine ∧ Zmv G g t e ds0 L Q xs (M4.set L (some (.lst (acc ++ [y])))) else Zmv G g t e ds0 L Q xs M3
def jLs (a : DE) : DJ := fun ds M R => a ds M fun x M1 => ∃ xs, lsOf M1 x = some xs ∧ R (fun M' => lsOf M' x = some xs) xs M1
section
variable {S : Sc} {ts : TS} {dss : DS} {tt : TT} {dt : DT} {te ta : TE} {de da : DE}
def WkG (S : Sc) (c : CS) (J : It) (xs : List D) (G : Mem → Prop) : Prop := ∀ (i : Nat) c' M', Same c.F c'.F → c.ρ <+: c'.ρ → Rel S.K S.cs c' M' → G M' → (xs.length = i → J.stop i c'.H) ∧ ∀ d, xs[i]? = some d → J.go i c'.H ∧ ∀ x H', J.yld i c'.H x H' → ∃ c'', c''.H = H' ∧ Step c' M' c'' M' ∧ Rel S.K S.cs c'' M' ∧ S.Vd c'' d x
def SimJ (S : Sc) (t : TI) (d : DJ) : Prop := ∀ c M σ ds R Rd, S.Ok c M → S.St c ds σ → d ds M Rd → (∀ c' M' J xs G, Step c M c' M' → Rel S.K S.cs c' M' → WkG S c' J xs G → Rd G xs M' → R J c'.H) → t σ c.H R
theorem Zfr.g {G : Mem → Prop} {g : DG} {b : DS} {E : Zd8} {ds : DSt} {M : Mem} : ∀ {xs : List D}, Zfr G g b E xs ds M → G M
 | [], h => h.1
 | _ :: _, h => h.1
theorem Zrr.g {G : Mem → Prop} {g : DG} {t : DT} {e : DE} {ds : DSt} {Q : List PV → Mem → Prop} {acc : List PV} {M : Mem} : ∀ {xs : List D}, Zrr G g t e ds Q xs acc M → G M
 | [], h => h.1
 | _ :: _, h => h.1
theorem Zmv.g {G : Mem → Prop} {g : DG} {t : DT} {e : DE} {ds : DSt} {L : Nat} {Q : Mem → Prop} {M : Mem} : ∀ {xs : List D}, Zmv G g t e ds L Q xs M → G M
 | [], h => h.1
 | _ :: _, h => h.1
theorem Z1a (ha : SimE S ta da) : SimJ S (iList S.K ta) (jLs da) := fun c M σ ds R Rd ok rs q po =>
 ha c M σ ds _ _ ok rs q fun c1 M1 v1 d1 s1 r1 p1 ⟨xs, e, q1⟩ => by
  have ok1 := ok.step s1 r1
  obtain ⟨a, vs, rfl, h1, h2⟩ := Zse ok1 p1 e
  refine ⟨a, rfl, ⟨vs, Zen h1⟩, po c1 M1 _ _ _ s1 r1 (fun i c' M' s p r hg => ?_) q1⟩
  have p1' : S.Vd c' d1 (.ref a) := RpD.mono s p p1
  obtain ⟨a', ws, ea, g1, g2⟩ := Zse (S := ⟨S.K, S.cs, c', M'⟩) ⟨Step.refl _ _, r⟩ p1' hg
  cases ea
  have w := walk_list (K := S.K) (a := a) (xs := ws)
  have g := Zen (K := S.K) g1
  have hn := g2.len
  refine ⟨fun e => by subst e; rw [hn]; exact w.stops _ g, fun d e => ?_⟩
  have hi : i < ws.length := by rw [← hn]; exact (Qa.mp e).1
  refine ⟨w.goes i _ hi g, fun x H' y => ?_⟩
  obtain ⟨e1, e2⟩ := w.yields i _ x H' hi g y
  obtain ⟨v, e3, e4⟩ := g2.get e
  rw [e2] at e3
  cases e3
  exact ⟨c', e1.symm, Step.refl _ _, r, e4⟩
theorem Zqw {ti : TI} {di : DJ} {g : TG} {dg : DG} (hi : SimJ S ti di) (hg : SimG S g dg) (hb : SimS S ts dss) : SimS S (tFor ti g ts) (Z9c di dg dss) := fun c M σ ds E Ed ok rs q po =>
 hi c M σ ds _ _ ok rs q fun c1 M1 J xs G s1 r1 wk q1 => by
  refine ⟨fun i m σ' H' => ∃ c2 M2 ds2, c2.H = H' ∧ m = xs.length - i ∧ i ≤ xs.length ∧ Step c1 M1 c2 M2 ∧ Rel S.K S.cs c2 M2 ∧ S.St c2 ds2 σ' ∧ Zfr G dg dss Ed (xs.drop i) ds2 M2, ⟨xs.length, c1, M1, ds, rfl, rfl, Q4 _, Step.refl _ _, r1, rs.step s1, q1⟩, ?_⟩
  rintro i m σ' H' ⟨c2, M2, ds2, rfl, rfl, hi, s2, r2, p2, q2⟩
  obtain ⟨w1, w2⟩ := wk i c2 M2 s2.same s2.pre r2 q2.g
  by_cases hlt : i < xs.length
  ·obtain ⟨g1, g2⟩ := w2 xs[i] (by simp [hlt])
   rw [Qu hlt] at q2
   refine Or.inr ⟨g1, fun σ'' H'' => ∃ c3 M3 ds3, c3.H = H'' ∧ Step c1 M1 c3 M3 ∧ Rel S.K S.cs c3 M3 ∧ S.St c3 ds3 σ'' ∧ Zfr G dg dss Ed (xs.drop (i + 1)) ds3 M3, fun σ'' H'' ⟨c3, M3, ds3, e, s3, r3, p3, q3⟩ => ⟨xs.length - (i + 1), by omega, c3, M3, ds3, e, rfl, hlt, s3, r3, p3, q3⟩, fun x H'' hy => ?_⟩
   obtain ⟨c3, rfl, s3, r3, p3⟩ := g2 x H'' hy
   have ok2 := (ok.step s1 r1).step s2 r2
   refine hg c3 M2 σ' ds2 _ _ _ _ (ok2.step s3 r3) (p2.step s3) p3 q2.2 fun c4 M4 σ4 ds4 s4 r4 p4 q4 => ?_
   have st : Step c1 M1 c4 M4 := s2.trans (s3.trans s4)
   have ps : PoS S c4 M4 (Zfr G dg dss Ed (xs.drop (i + 1))) (fun σ'' H'' => ∃ c3 M3 ds3, c3.H = H'' ∧ Step c1 M1 c3 M3 ∧ Rel S.K S.cs c3 M3 ∧ S.St c3 ds3 σ'' ∧ Zfr G dg dss Ed (xs.drop (i + 1)) ds3 M3) := fun c5 M5 σ5 ds5 s5 r5 p5 q5 => ⟨c5, M5, ds5, rfl, st.trans s5, r5, p5, q5⟩
   have po4 := po.step (s1.trans st)
   exact hb c4 M4 σ4 ds4 _ _ ((ok2.step s3 r3).step s4 r4) p4 q4 ⟨ps, po4.rt, po4.nx, ps⟩
  ·have e : xs.length = i := by omega
   rw [← e, Ht] at q2
   exact Or.inl ⟨w1 e, po.nx c2 M2 σ' ds2 (s1.trans s2) r2 p2 q2.2⟩
end
end Cl
namespace Cl
open PySem PySem.Spec PyProof.Rows L2 He ClX
def subC (d k : Cn) : Bool := decide (k = d) || (match d, k with
 | .Stage, .Drop | .Stage, .LastDrop | .Stage, .Write | .Stage, .Once | .Stage, .Add | .Drop, .LastDrop => true
 | _, _ => false)
def Zsq (c : Cell) : Prop := ∃ (ns : List Int) (pos rest seed : Int), c = .lst [vL (ns.map PV.int), vI pos, vI rest, vI seed] ∧ 0 ≤ pos
theorem Zsq.low {c : Cell} {n : Nat} (h : Zsq c) : c.low n := by
 obtain ⟨ns, pos, rest, seed, rfl, _⟩ := h
 intro i m
 simp at m
def Bg (M : Mem) (i : Nat) : Prop := ∃ c, M[i]? = some (some c) ∧ Zsq c
def Bd (i : Nat) (M M' : Mem) : Prop := ∃ c, Zsq c ∧ M' = M.set i (some c)
def Zi2 : DSp := fun ds M Q _ => ∃ ns, ds = [.v (.scr ns)] ∧ ∀ c, Zsq c → Q (.cell M.length) (M ++ [some c])
def Zdo : DSp := fun ds M Q _ => ∃ (b : Nat) (n : Int), ds = [.cell b, vI n] ∧ Bg M b ∧ 0 < n ∧ n < 1152921504606846976 ∧ ∀ (r : Nat) M', (r : Int) < n → Bd b M M' → Q (vI r) M'
def alph (ls vw : List Nat) : PV := .obj .Alphabet [.str ls, .str vw, .str (cons ls vw), .str (45 :: ls)]
def Za8 : DSp := fun ds M Q _ => ∃ z, ds = [vS z] ∧ z.length ≤ 1000 ∧ Q (vB (decide z.Nodup)) M
def Zaw : DSp := fun ds M Q E => ∃ n ls vw, ds = [.cell n, vS ls, vS vw] ∧ M[n]? = some (some (.obj .Alphabet [])) ∧ ls.length ≤ 60 ∧ vw.length ≤ 60 ∧
 (¬ okL ls → E ⟨.BadAlphabet, [.str txL]⟩ M) ∧ (okL ls → ¬ okV ls vw → E ⟨.BadAlphabet, [.str txV]⟩ M) ∧
 (okL ls → okV ls vw → Q (.v .non) (M.set n (some (.obj .Alphabet ([.str (srt ls), .str (srt vw), .str (cons (srt ls) vw), .str (45 :: srt ls)].map D.v)))))
def Zar : DSp := fun ds M Q _ => ∃ ls vw ls' vw', ds = [.v (alph ls vw), .v (alph ls' vw')] ∧ Q (vB (decide (ls = ls') && decide (vw = vw'))) M
def Zaj : DSp := fun ds M Q _ => ∃ ls vw z, ds = [.v (alph ls vw), vS z] ∧ Q (vB (isW ls z)) M
def Zac : DSp := fun ds M Q E => ∃ ls vw z, ds = [.v (alph ls vw), vS z] ∧ z.length ≤ 60 ∧ (okS ls z → Q (vS (inner z)) M) ∧ (¬ okS ls z → E ⟨.BadStage, [.str txS]⟩ M)
def Zai : DSp := fun ds M Q E => ∃ ls vw z, ds = [.v (alph ls vw), vS z] ∧ z.length ≤ 60 ∧ (okN ls z → Q (vS (mem ls vw z)) M) ∧ (¬ okN ls z → E ⟨.BadStage, [.str txS]⟩ M)
inductive Stg where
 | drop (nm ch : List Nat) (a : Nat) (each last : Bool)
 | write (x : Nat) (nm ch : List Nat)
 | once (nm ch : List Nat)
 | add (x : Nat)
def Stg.cls : Stg → Cn
 | .drop _ _ _ _ l => if l then .LastDrop else .Drop
 | .write _ _ _ => .Write
 | .once _ _ => .Once
 | .add _ => .Add
def Stg.fs (al : PV) : Stg → List PV
 | .drop nm ch a e _ => [al, .str nm, .str ch, .int a, .bl e]
 | .write x nm ch => [al, .str [x], .str nm, .str ch]
 | .once nm ch => [al, .str nm, .str ch]
 | .add x => [al, .str [x]]
def Stg.pv (al : PV) (s : Stg) : PV := .obj s.cls (s.fs al)
structure Sta where
 n : Nat := 0
 w : List Nat := []
def Stg.val : Stg → Sta → PV
 | .drop _ _ _ _ l, s => if l then .tup [.int s.n, .str s.w] else .int s.n
 | .once _ _, s => .str s.w
 | _, _ => .int 0
def Z6h (ch : List Nat) (a : Nat) (each : Bool) (n c : Nat) : Nat := if each = true ∧ c = 45 then 0 else if n < a then n + 1 else n
def Z2o (ch : List Nat) (a : Nat) (each : Bool) (n c : Nat) : List Nat := if each = true ∧ c = 45 then [c] else if n < a then [c] else if c ∈ ch then [] else [c]
def Stg.step : Stg → Sta → Nat → Sta
 | .drop _ ch a e l, s, c => if l = true then { n := Z6h ch a e s.n c, w := if e = true ∧ c = 45 then [] else if Z2o ch a e s.n c = [] then [c] else [] } else { n := Z6h ch a e s.n c, w := [] }
 | .once _ _, _, c => { w := [c] }
 | _, _, _ => {}
def Stg.out : Stg → Sta → Nat → List Nat
 | .drop _ ch a e l, s, c => if l = true ∧ e = true ∧ c = 45 then s.w ++ Z2o ch a e s.n c else Z2o ch a e s.n c
 | .write x _ ch, _, c => if c ∈ ch then [x] else [c]
 | .once _ ch, s, c => if [c] = s.w ∧ c ∈ ch then [] else [c]
 | .add _, _, c => [c]
def Stg.fin : Stg → Sta → List Nat
 | .drop _ _ _ _ l, s => if l = true then s.w else []
 | .add x, _ => [x]
 | _, _ => []
def Sta.ok (s : Sta) : Prop := s.w.length ≤ 1
def Stg.go (st : Stg) : Sta → List Nat → List Nat
 | s, [] => st.fin s
 | s, c :: z => st.out s c ++ st.go (st.step s c) z
def Stg.run (st : Stg) (z : List Nat) : List Nat := st.go {} z
def dig : Nat → List Nat := fun n => [48 + n]
def Stg.text : Stg → List Nat
 | .drop nm _ a e l => [100, 114, 111, 112, 32] ++ nm ++ (if 0 < a then [32, 97, 102, 116, 101, 114, 32] ++ dig a else []) ++ (if e = true then [32, 101, 97, 99, 104] else []) ++ (if l = true then [32, 98, 117, 116, 32, 108, 97, 115, 116] else [])
 | .write x nm _ => [119, 114, 105, 116, 101, 32] ++ [x] ++ [32, 102, 111, 114, 32] ++ nm
 | .once nm _ => [111, 110, 99, 101, 32] ++ nm
 | .add x => [97, 100, 100, 32] ++ [x]
def Stg.ok (ls vw : List Nat) : Stg → Prop
 | .drop nm ch a _ _ => okN ls nm ∧ ch = mem ls vw nm ∧ nm.length ≤ 60 ∧ a ≤ 3
 | .write x nm ch => x ∈ 45 :: ls ∧ okN ls nm ∧ ch = mem ls vw nm ∧ nm.length ≤ 60
 | .once nm ch => okN ls nm ∧ ch = mem ls vw nm ∧ nm.length ≤ 60
 | .add x => x ∈ 45 :: ls
def Z58 : Stg → Prop
 | .drop _ _ _ _ l => l = true
 | _ => False
def Z2d : Stg → Prop
 | .write _ _ _ => True
 | _ => False
def Z57 : Stg → Prop
 | .once _ _ => True
 | _ => False
def isAdd : Stg → Prop
 | .add _ => True
 | _ => False
def Zvq (ok : Stg → Prop) : DSp := fun ds M Q _ => ∃ al st, ds = [.v (Stg.pv al st)] ∧ ok st ∧ (∃ ls vw, st.ok ls vw) ∧ Q (vS st.text) M
def Zaq : DSp := fun ds M Q _ => ∃ n k al, ds = [.cell n, al] ∧ M[n]? = some (some (.obj k [])) ∧ k.ix .alphabet = 0 ∧ 0 < k.flds.length ∧ Q (.v .non) (M.set n (some (.obj k [al])))
abbrev txSg : List Nat := [115, 105, 103, 110]
abbrev txAf : List Nat := [97, 102, 116, 101, 114]
def okX (ls z : List Nat) : Prop := z.length = 1 ∧ isW ls z = true
def Zb3 : DSp := fun ds M Q E => ∃ n ls vw x z, ds = [.cell n, .v (alph ls vw), vS x, vS z] ∧ M[n]? = some (some (.obj .Write [])) ∧ x.length ≤ 60 ∧ z.length ≤ 60 ∧
 (¬ okX ls x → ∀ o, E ⟨.BadStage, [.str txSg]⟩ (M.set n o)) ∧ (okX ls x → ¬ okN ls z → ∀ o, E ⟨.BadStage, [.str txS]⟩ (M.set n o)) ∧
 (∀ c, x = [c] → okX ls x → okN ls z → Q (.v .non) (M.set n (some (.obj .Write ((Stg.fs (alph ls vw) (.write c z (mem ls vw z))).map D.v)))))
def Zcs : DSp := fun ds M Q E => ∃ n ls vw z, ds = [.cell n, .v (alph ls vw), vS z] ∧ M[n]? = some (some (.obj .Once [])) ∧ z.length ≤ 60 ∧
 (¬ okN ls z → ∀ o, E ⟨.BadStage, [.str txS]⟩ (M.set n o)) ∧ (okN ls z → Q (.v .non) (M.set n (some (.obj .Once ((Stg.fs (alph ls vw) (.once z (mem ls vw z))).map D.v)))))
def Zdc : DSp := fun ds M Q E => ∃ n ls vw x, ds = [.cell n, .v (alph ls vw), vS x] ∧ M[n]? = some (some (.obj .Add [])) ∧ x.length ≤ 60 ∧
 (¬ okX ls x → ∀ o, E ⟨.BadStage, [.str txSg]⟩ (M.set n o)) ∧ (∀ c, x = [c] → okX ls x → Q (.v .non) (M.set n (some (.obj .Add ((Stg.fs (alph ls vw) (.add c)).map D.v)))))
def Zbc : DSp := fun ds M Q E => ∃ n k ls vw z a e, ds = [.cell n, .v (alph ls vw), vS z, vI a, vB e] ∧ M[n]? = some (some (.obj k [])) ∧ (k = .Drop ∨ k = .LastDrop) ∧ z.length ≤ 60 ∧
 (¬ okN ls z → ∀ o, E ⟨.BadStage, [.str txS]⟩ (M.set n o)) ∧ (okN ls z → ¬ (0 ≤ a ∧ a ≤ 3) → ∀ o, E ⟨.BadStage, [.str txAf]⟩ (M.set n o)) ∧
 (∀ b : Nat, a = b → okN ls z → b ≤ 3 → ∀ l, Q (.v .non) (M.set n (some (.obj k ((Stg.fs (alph ls vw) (.drop z (mem ls vw z) b e l)).map D.v)))))
def Zav : DSp := fun ds M Q E => (∃ n r, ds = .cell n :: r ∧ M[n]? = some (some (.obj .LastDrop []))) ∧ Zbc ds M Q E
def Za0 : DSp := fun ds M Q _ => ∃ al nm ch a e l, ds = [.v (Stg.pv al (.drop nm ch a e l))] ∧ nm.length ≤ 60 ∧ a ≤ 3 ∧ Q (vS (Stg.text (.drop nm ch a e false))) M
abbrev Zal := Zvq Z58
abbrev Zbo := Zvq Z2d
abbrev Zbw := Zvq Z57
abbrev Zcf := Zvq isAdd
def Zbe : Cn → Option DSp
 | .Alphabet => some Zaj
 | _ => none
def Zau : Cn → Option DSp
 | .Alphabet => some Zai
 | _ => none
def Zbd : Cn → Option DSp
 | .Alphabet => some Zac
 | _ => none
def Zi0 : Cn → Option DSp
 | .Drop => some Za0 | .LastDrop => some Zal | .Write => some Zbo | .Once => some Zbw | .Add => some Zcf
 | _ => none
theorem Zx6 {g : Cn → Option DSp} {m : Str} (ks : List Cn) (hk : ∀ k, (g k).isSome = true → k ∈ ks) (h : (ks.all fun k => k.flds.all fun f => decide (f.str ≠ m)) = true) : ∀ k, (g k).isSome = true → ∀ f ∈ k.flds, f.str ≠ m := fun k q f hf =>
 of_decide_eq_true (Q6.mp (Q6.mp h k (hk k q)) f hf)
abbrev Z9g : List Cn := [.Drop, .LastDrop, .Write, .Once, .Add]
theorem Zgi : ∀ k, (Zbe k).isSome = true → ∀ f ∈ k.flds, f.str ≠ "is_word" := Zx6 [.Alphabet] (fun k h => by cases k <;> first | (cases h; done) | simp) (by decide +kernel)
theorem Zed : ∀ k, (Zau k).isSome = true → ∀ f ∈ k.flds, f.str ≠ "members" := Zx6 [.Alphabet] (fun k h => by cases k <;> first | (cases h; done) | simp) (by decide +kernel)
theorem Zgh : ∀ k, (Zbd k).isSome = true → ∀ f ∈ k.flds, f.str ≠ "listed_members" := Zx6 [.Alphabet] (fun k h => by cases k <;> first | (cases h; done) | simp) (by decide +kernel)
theorem Z2h : ∀ k, (Zi0 k).isSome = true → ∀ f ∈ k.flds, f.str ≠ "text" := Zx6 Z9g (fun k h => by cases k <;> first | (cases h; done) | simp) (by decide +kernel)
section
variable (ds : List D) (M : Mem) (Q : DQ) (E : DX)
theorem Zpv (h : Zi2 ds M Q E) : ds.length = 1 := by obtain ⟨_, rfl, _⟩ := h; rfl
theorem Zn8 (h : Zdo ds M Q E) : ds.length = 2 := by obtain ⟨_, _, rfl, _⟩ := h; rfl
theorem Zet (h : Za8 ds M Q E) : ds.length = 1 := by obtain ⟨_, rfl, _⟩ := h; rfl
theorem Zew (h : Zaw ds M Q E) : ds.length = 3 := by obtain ⟨_, _, _, rfl, _⟩ := h; rfl
theorem Zgd (h : Zar ds M Q E) : ds.length = 2 := by obtain ⟨_, _, _, _, rfl, _⟩ := h; rfl
theorem Zdq (h : Zaj ds M Q E) : ds.length = 2 := by obtain ⟨_, _, _, rfl, _⟩ := h; rfl
theorem Zb7 (h : Zac ds M Q E) : ds.length = 2 := by obtain ⟨_, _, _, rfl, _⟩ := h; rfl
theorem Zdp (h : Zai ds M Q E) : ds.length = 2 := by obtain ⟨_, _, _, rfl, _⟩ := h; rfl
theorem Zfi {ok : Stg → Prop} (h : Zvq ok ds M Q E) : ds.length = 1 := by obtain ⟨_, _, rfl, _⟩ := h; rfl
theorem Zhc (h : Zaq ds M Q E) : ds.length = 2 := by obtain ⟨_, _, _, rfl, _⟩ := h; rfl
theorem Zhb (h : Zb3 ds M Q E) : ds.length = 4 := by obtain ⟨_, _, _, _, _, rfl, _⟩ := h; rfl
theorem Ziv (h : Zcs ds M Q E) : ds.length = 3 := by obtain ⟨_, _, _, _, rfl, _⟩ := h; rfl
theorem Zj4 (h : Zdc ds M Q E) : ds.length = 3 := by obtain ⟨_, _, _, _, rfl, _⟩ := h; rfl
theorem Zd2 (h : Zbc ds M Q E) : ds.length = 5 := by obtain ⟨_, _, _, _, _, _, _, rfl, _⟩ := h; rfl
end
theorem Zha (ds : List D) (M : Mem) (Q : DQ) (E : DX) (h : Zbo ds M Q E) : ds.length = 1 := Zfi ds M Q E h
theorem Ziu (ds : List D) (M : Mem) (Q : DQ) (E : DX) (h : Zbw ds M Q E) : ds.length = 1 := Zfi ds M Q E h
theorem Zj3 (ds : List D) (M : Mem) (Q : DQ) (E : DX) (h : Zcf ds M Q E) : ds.length = 1 := Zfi ds M Q E h
theorem Zix (ds : List D) (M : Mem) (Q : DQ) (E : DX) (h : Za0 ds M Q E) : ds.length = 1 := by obtain ⟨_, _, _, _, _, _, rfl, _⟩ := h; rfl
theorem Zeu (ds : List D) (M : Mem) (Q : DQ) (E : DX) (h : Zal ds M Q E) : ds.length = 1 := Zfi ds M Q E h
theorem Zev (ds : List D) (M : Mem) (Q : DQ) (E : DX) (h : Zav ds M Q E) : ds.length = 5 := Zd2 ds M Q E h.2
def Za4 : DS :=
 dRet (dOp uEq (Zmu (Zaa (dVar 0) dNil)) (dCB uLen (Zaa (dVar 0) dNil)))
def Za7 (E : DX) : DS :=
 dSeq (dAsg (dLc (jStr (dVar 1)) (hName 4) (Zah (dOp Zgn (dVar 4) (dC (.str [97, 98, 99, 100, 101, 102, 103, 104, 105, 106, 107, 108, 109, 110, 111, 112, 113, 114, 115, 116, 117, 118, 119, 120, 121, 122])))) (dVar 4) [4]) (hName 3)) (dSeq (dIfS (dOr (dTru (dVar 3)) (dOr (dNot (Zah (Zjd uLe uLe (dC (.int 1)) (dCB uLen (Zaa (dVar 1) dNil)) (dC (.int 8))))) (dNot (dTru (Zd6 Za8 noX (Zaa (dVar 1) dNil)))))) (Zct .BadAlphabet E (Zaa (dC (.str [108, 101, 116, 116, 101, 114, 115])) dNil)) Zam) (dSeq (dIfS (dOr (dTru (dLc (jStr (dVar 2)) (hName 4) (Zah (dOp Zgn (dVar 4) (dVar 1))) (dVar 4) [4])) (dNot (dTru (Zd6 Za8 noX (Zaa (dVar 2) dNil))))) (Zct .BadAlphabet E (Zaa (dC (.str [118, 111, 119, 101, 108, 115])) dNil)) Zam) (dSeq (dStF (dVar 0) (dBm tyS Zgy (dC (.str [])) (Zaa (dCB uSrt (Zaa (dVar 1) dNil)) dNil)) .letters) (dSeq (dStF (dVar 0) (dBm tyS Zgy (dC (.str [])) (Zaa (dCB uSrt (Zaa (dVar 2) dNil)) dNil)) .vowels) (dSeq (dStF (dVar 0) (dBm tyS Zgy (dC (.str [])) (Zaa (dLc (jLst (dCB uSrt (Zaa (dVar 1) dNil))) (hName 4) (Zah (dOp Zgn (dVar 4) (dVar 2))) (dVar 4) [4]) dNil)) .consonants) (dStF (dVar 0) (dOp uAdd (dC (.str [45])) (dFld (dVar 0) .letters)) .signs))))))
def Zap : DS :=
 dSeq (dFor (jStr (dVar 1)) (hName 2) (dIfS (Zah (dOp Zgn (dVar 2) (dFld (dVar 0) .signs))) (dRet (dC (.bl false))) Zam)) (dRet (dC (.bl true)))
def Zag (E : DX) : DS :=
 dSeq (dAsg (dSl uSl (dVar 1) (Zcw (dC (.int 1))) (Zcw (dUn uNeg (dC (.int 1))))) (hName 2)) (dSeq (dIfS (dOr (Zah (dOp uLt (dCB uLen (Zaa (dVar 1) dNil)) (dC (.int 3)))) (dOr (Zah (dOp uNe (dOp uIx (dVar 1) (dC (.int 0))) (dC (.str [91])))) (Zah (dOp uNe (dOp uIx (dVar 1) (dUn uNeg (dC (.int 1)))) (dC (.str [93])))))) (Zct .BadStage E (Zaa (dC (.str [115, 101, 116])) dNil)) Zam) (dSeq (dIfS (dOr (dNot (dTru (Zd5 Zbe [] noX (dVar 0) (Zaa (dVar 2) dNil)))) (Zah (dOp uNe (dBm tyS Zgy (dC (.str [])) (Zaa (Zmr (Zaa (dVar 2) dNil)) dNil)) (dVar 2)))) (Zct .BadStage E (Zaa (dC (.str [115, 101, 116])) dNil)) Zam) (dRet (dVar 2))))
def Zao (E : DX) : DS :=
 dSeq (dIfS (Zah (dOp uEq (dVar 1) (dC (.str [97, 108, 108])))) (dRet (dFld (dVar 0) .signs)) Zam) (dSeq (dIfS (Zah (dOp uEq (dVar 1) (dC (.str [108, 101, 116, 116, 101, 114, 115])))) (dRet (dFld (dVar 0) .letters)) Zam) (dSeq (dIfS (Zah (dOp uEq (dVar 1) (dC (.str [118, 111, 119, 101, 108, 115])))) (dRet (dFld (dVar 0) .vowels)) Zam) (dSeq (dIfS (Zah (dOp uEq (dVar 1) (dC (.str [99, 111, 110, 115, 111, 110, 97, 110, 116, 115])))) (dRet (dFld (dVar 0) .consonants)) Zam) (dSeq (dIfS (Zah (dOp uEq (dVar 1) (dC (.str [106, 111, 105, 110, 116, 115])))) (dRet (dC (.str [45]))) Zam) (dRet (Zd5 Zbd [] E (dVar 0) (Zaa (dVar 1) dNil)))))))
def Zb2 : DS :=
 dStF (dVar 0) (dVar 1) .alphabet
def Zb1 (E : DX) : DS :=
 dSeq (Zeh (dSup (subC .Write) Zaq noX (Zaa (dVar 1) dNil))) (dSeq (dIfS (dOr (Zah (dOp uNe (dCB uLen (Zaa (dVar 2) dNil)) (dC (.int 1)))) (dNot (dTru (Zd5 Zbe [] noX (dVar 1) (Zaa (dVar 2) dNil))))) (Zct .BadStage E (Zaa (dC (.str [115, 105, 103, 110])) dNil)) Zam) (dSeq (dStF (dVar 0) (dVar 2) .sign) (dSeq (dStF (dVar 0) (dVar 3) .name) (dStF (dVar 0) (Zd5 Zau [] E (dVar 1) (Zaa (dVar 3) dNil)) .chosen))))
def Zb0 : DS :=
 dRet (dFs [dC (.str [119, 114, 105, 116, 101, 32]), dFmt (dFld (dVar 0) .sign), dC (.str [32, 102, 111, 114, 32]), dFmt (dFld (dVar 0) .name)])
def Zcm (E : DX) : DS :=
 dSeq (Zeh (dSup (subC .Once) Zaq noX (Zaa (dVar 1) dNil))) (dSeq (dStF (dVar 0) (dVar 2) .name) (dStF (dVar 0) (Zd5 Zau [] E (dVar 1) (Zaa (dVar 2) dNil)) .chosen))
def Zcl : DS :=
 dRet (dOp uAdd (dC (.str [111, 110, 99, 101, 32])) (dFld (dVar 0) .name))
def Zc9 (E : DX) : DS :=
 dSeq (Zeh (dSup (subC .Add) Zaq noX (Zaa (dVar 1) dNil))) (dSeq (dIfS (dOr (Zah (dOp uNe (dCB uLen (Zaa (dVar 2) dNil)) (dC (.int 1)))) (dNot (dTru (Zd5 Zbe [] noX (dVar 1) (Zaa (dVar 2) dNil))))) (Zct .BadStage E (Zaa (dC (.str [115, 105, 103, 110])) dNil)) Zam) (dStF (dVar 0) (dVar 2) .sign))
def Zc8 : DS :=
 dRet (dOp uAdd (dC (.str [97, 100, 100, 32])) (dFld (dVar 0) .sign))
def Zih : DS :=
 dRet (Zoq (Zaa (dCB Zo5 (Zaa (dSl uSl (dVar 0) Za2 (Zcw (dC (.int 63)))) dNil)) (Zaa (dC (.int 0)) (Zaa (dC (.int 0)) (Zaa (dC (.int 1)) dNil)))))
def Zfb : DS :=
 dSeq (dIfS (Zah (dOp uGt (dOp uIx (dVar 0) (dC (.int 2))) (dC (.int 0)))) (dSeq (dAsg (dCB uInt (Zaa (dOp uIx (dVar 0) (dC (.int 2))) dNil)) (hName 2)) (dSeq (dAsg (dOp uDiv (dVar 2) (dVar 1)) (hSub (dVar 0) (dC (.int 2)))) (dRet (dOp uMod (dCB uInt (Zaa (dVar 2) dNil)) (dVar 1))))) Zam) (dSeq (dAsg (dC (.int 0)) (hName 3)) (dCut (dIfS (Zah (dOp uLt (dOp uIx (dVar 0) (dC (.int 1))) (dCB uLen (Zaa (dOp uIx (dVar 0) (dC (.int 0))) dNil)))) (dAsg (dOp uIx (dOp uIx (dVar 0) (dC (.int 0))) (dOp uIx (dVar 0) (dC (.int 1)))) (hName 3)) Zam) (dSeq (dAsg (dOp uAdd (dOp uIx (dVar 0) (dC (.int 1))) (dC (.int 1))) (hSub (dVar 0) (dC (.int 1)))) (dSeq (dIfS (Zah (dOp uGe (dVar 3) (dOp uPow (dC (.int 10)) (dC (.int 18))))) (dSeq (dAsg (dOp uDiv (dVar 3) (dVar 1)) (hSub (dVar 0) (dC (.int 2)))) (dRet (dOp uMod (dCB uInt (Zaa (dVar 3) dNil)) (dVar 1)))) Zam) (dSeq (dAsg (dOp uMod (dCB uInt (Zaa (dOp uAdd (dOp uAdd (dOp uMul (dOp uIx (dVar 0) (dC (.int 3))) (dC (.int 48271))) (dOp uMul (dVar 3) (dC (.int 69621)))) (dOp uMul (dOp uIx (dVar 0) (dC (.int 1))) (dC (.int 7919)))) dNil)) (dC (.int 2147483647))) (hSub (dVar 0) (dC (.int 3)))) (dRet (dOp uMod (dOp uDiv (dCB uInt (Zaa (dOp uIx (dVar 0) (dC (.int 3))) dNil)) (dC (.int 16))) (dVar 1))))))))
local macro_rules | `(tactic| walk_at "zv") => `(tactic| first | (dsimp only [Hk, Hq, Hf, Hg]; done) | (with_unfolding_all exact rfl))
local macro_rules | `(tactic| walk_at "sz") => `(tactic| (rw [sizeLine_eq]; (try simp only [Qc, Qe, Qm, Qb, Qo]); omega))
local macro_rules | `(tactic| walk_at "ds") => `(tactic| repeat (first
 | with_reducible refine Z10 ?_
 | with_reducible refine Z5w ?_
 | with_reducible refine Zsh (by first | (dsimp only [Hk, Hq, Hf, Hg]; done) | (with_unfolding_all exact rfl)) ?_
 | with_reducible refine k_c ?_
 | with_reducible refine k_op ?_
 | with_reducible refine Zoc ?_
 | with_reducible refine Z5f ?_
 | with_reducible refine Zkr ?_
 | with_reducible refine Z5p ?_
 | with_reducible refine Zzn ?_
 | with_reducible refine k_bl ?_
 | with_reducible refine iteT ?_
 | with_reducible refine iteF ?_
 | with_reducible refine k_nf ?_
 | with_reducible refine k_nt ?_
 | with_reducible refine Z11 ?_
 | with_reducible refine k_cb ?_
 | with_reducible refine Zzz ?_
 | with_reducible refine k_not ?_
 | with_reducible refine Z5x ?_
 | with_reducible refine k_or ?_
 | with_reducible refine k_drop ?_
 | with_reducible refine Zzr ?_
 | with_reducible refine k_bm ?_
 | with_reducible refine Z42 ?_
 | with_reducible refine k_un ?_
 | with_reducible refine Z8i ?_
 | with_reducible refine Z5t ?_
 | with_reducible refine k_meth ?_
 | with_reducible refine Z47 ?_
 | with_reducible refine Zzm ?_
 | with_reducible refine Zzl ?_
 | with_reducible refine k_sl ?_
 | with_reducible refine Zzq ?_
 | with_reducible refine Zra ?_
 | with_reducible refine k_i ?_
 | with_reducible refine k_s ?_
 | with_reducible refine k_l ?_
 | with_reducible refine k_tu ?_
 | with_reducible refine Z44 ?_
 | with_reducible refine Z5i ?_
 | with_reducible refine k_pu (by with_unfolding_all exact rfl) (by (rw [sizeLine_eq]; (try simp only [Qc, Qe, Qm, Qb, Qo]); omega)) ?_
 | with_reducible refine Zzt ?_
 | with_reducible refine k_lc ?_
 | with_reducible refine Zu4 ?_
 | with_reducible refine Z5s ?_
 | with_reducible refine Zzx ?_
 | with_reducible refine Zzy ?_
 | with_reducible refine Zzw ?_
 | with_reducible refine Zzo ?_
 | with_reducible refine k_if ?_
 | with_reducible refine Zz1 ?_
 | with_reducible refine Z8h ?_
 | with_reducible refine Z5e ?_
 | with_reducible refine Zvi ?_
 | with_reducible refine Zu8 ?_
 | with_reducible refine Z5b ?_
 | with_reducible refine Z5r ?_
 | with_reducible refine Zre _ ?_
 | with_reducible refine Zzs ?_
 | with_reducible refine Z45 ?_
 | with_reducible refine Z18 ?_
 | with_reducible refine Zx0 ?_
 | with_reducible refine k_xf ?_
 | with_reducible refine k_sub ?_
 | with_reducible refine k_fs ?_
 | with_reducible refine k_js ?_
 | with_reducible refine Z5k ?_
 | with_reducible refine Z8q ?_
 | with_reducible refine Z8g ?_
 | with_reducible refine Zxw ?_
 | with_reducible refine Zxs ?_
 | with_reducible refine Z16 ?_
 | with_reducible refine Z5q ?_
 | with_reducible refine Zrd (by rfl) ?_
 | with_reducible refine Zz2 ?_
 | with_reducible refine Z49 ?_
 | with_reducible refine k_lt ?_
 | with_reducible refine k_le ?_
 | with_reducible refine k_gt ?_
 | with_reducible refine k_ge ?_
 | with_reducible refine k_in ?_
 | with_reducible refine Z12 ?_
 | with_reducible refine Z5m ?_
 | with_reducible refine Zrc ?_
 | with_reducible refine Z8m ?_
 | with_reducible refine Zxy ?_
 | with_reducible refine Z8n ?_
 | with_reducible refine Z5n ?_
 | with_reducible refine Z5v ?_
 | with_reducible refine Z5g ?_
 | with_reducible refine Z8r ?_
 | with_reducible refine k_eq (by with_unfolding_all exact rfl) ?_
 | with_reducible refine k_ne (by with_unfolding_all exact rfl) ?_
 | with_reducible refine Zvf (by with_unfolding_all exact rfl) ?_
 | with_reducible refine Ziz (by with_unfolding_all exact rfl) ?_
 | with_reducible refine Z5d ?_
 | with_reducible refine Zzv ?_
 | with_reducible refine Zzu ?_
 | with_reducible refine Zva ?_
 | with_reducible refine Z15 ?_
 | with_reducible refine k_sz (by (rw [sizeLine_eq]; (try simp only [Qc, Qe, Qm, Qb, Qo]); omega)) ?_
 | with_reducible refine Zrb (by (rw [sizeLine_eq]; (try simp only [Qc, Qe, Qm, Qb, Qo]); omega)) ?_
 | with_reducible refine Zod (by (rw [sizeLine_eq]; (try simp only [Qc, Qe, Qm, Qb, Qo]); omega)) ?_
 | with_reducible refine Zxt (by (rw [sizeLine_eq]; (try simp only [Qc, Qe, Qm, Qb, Qo]); omega)) ?_))
theorem Zay {M : Mem} {ls vw : List Nat} : obOf M (.v (alph ls vw)) = some (.Alphabet, [vS ls, vS vw, vS (cons ls vw), vS (45 :: ls)]) := rfl
theorem Zf6 (ds : List D) (M : Mem) (Q : DQ) (E : DX) (h : Za8 ds M Q E) : Za4 { nx := fun _ M' => Zad M Q (.v .non) M', rt := Zad M Q } (Zae 1 ds) M := by
 obtain ⟨z, rfl, hz, q⟩ := h
 show Za4 _ [some (vS z)] M
 unfold Za4
 walk_at "ds"
 refine ⟨z, rfl, hz, fun n hn => ?_⟩
 walk_at "ds"
 rw [hn]
 exact Zak q
theorem Za1 {M : Mem} {d : D} {k : Cn} {ys : List D} {f : Fd} {y : D} {p : D → Prop} (e : obOf M d = some (k, ys)) (e2 : ys[k.ix f]? = some y) (h : p y) : ∃ k ys y, obOf M d = some (k, ys) ∧ ys[k.ix f]? = some y ∧ p y := ⟨k, ys, y, e, e2, h⟩
theorem Zef (ds : List D) (M : Mem) (Q : DQ) (E : DX) (h : Zaj ds M Q E) : Zap { nx := fun _ M' => Zad M Q (.v .non) M', rt := Zad M Q } (Zae 3 ds) M := by
 obtain ⟨ls, vw, z, rfl, q⟩ := h
 show Zap _ [some (.v (alph ls vw)), some (vS z), none] M
 unfold Zap
 walk_at "ds"
 have key : ∀ (y : List Nat) (v : Option D) (N : DSt → Mem → Prop), (isW ls y = true → ∀ v, N [some (.v (alph ls vw)), some (vS z), v] M) → (isW ls y = false → Zad M Q (vB false) M) →
   Zeg (hName 2) (dIfS (Zah (dOp Zgn (dVar 2) (dFld (dVar 0) .signs))) (dRet (dC (.bl false))) Zam) { nx := N, rt := Zad M Q } (y.map fun c => vS [c]) [some (.v (alph ls vw)), some (vS z), v] M := by
  intro y
  induction y with
  | nil => exact fun v N h1 h2 => h1 rfl v
  | cons c y ih =>
   intro v N h1 h2
   refine Zuu ?_
   walk_at "ds"
   refine Za1 Zay (by with_unfolding_all exact rfl) ?_
   walk_at "ds"
   by_cases hc : c ∈ 45 :: ls
   ·rw [decide_eq_true hc]
    refine iteF ?_
    walk_at "ds"
    have e : isW ls (c :: y) = isW ls y := by
     unfold isW
     rw [G5, decide_eq_true hc, Bool.true_and]
    exact ih _ N (fun h => h1 (by rw [e]; exact h)) fun h => h2 (by rw [e]; exact h)
   ·rw [decide_eq_false hc]
    refine iteT ?_
    walk_at "ds"
    refine h2 ?_
    unfold isW
    rw [G5, decide_eq_false hc, Bool.false_and]
 refine key z _ _ (fun h v => ?_) fun h => Zak (by rw [h] at q; exact q)
 rw [h] at q
 walk_at "ds"
 exact Zak q
theorem k_m {M : Mem} {d : D} {k : Cn} {ys : List D} {sp : DSp} {gg : Cn → Option DSp} {p : DSp → Prop} (e : obOf M d = some (k, ys)) (e2 : gg k = some sp) (h : p sp) : ∃ k ys sp, obOf M d = some (k, ys) ∧ gg k = some sp ∧ p sp := ⟨k, ys, sp, e, e2, h⟩
theorem Zkq : ∀ {l m : List Nat}, l.Nodup → (∀ c ∈ l, c ∈ m) → l.length ≤ m.length
 | [], _, _, _ => Q4 _
 | x :: t, m, nd, sub => by
  obtain ⟨hx, nt⟩ := Hd.mp nd
  have p := La (sub x Qp)
  have l1 := p.length_eq
  simp only [Qe] at l1 ⊢
  have ih := Zkq (l := t) (m := m.erase x) nt (fun y hy => (Lb (fun e => hx (by rw [← e]; exact hy))).mpr (sub y (Qh _ hy)))
  omega
theorem Bg.lt {M : Mem} {b : Nat} (h : Bg M b) : b < M.length := by
 obtain ⟨c, e, _⟩ := h
 exact (Qa.mp e).1
theorem Bd.refl {M : Mem} {b : Nat} (h : Bg M b) : Bd b M M := by
 obtain ⟨c, e, hc⟩ := h
 refine ⟨c, hc, ?_⟩
 obtain ⟨h1, h2⟩ := Qa.mp e
 rw [← h2, List.set_getElem_self]
theorem Bd.trans {M M1 M2 : Mem} {b : Nat} (h : Bd b M M1) (g : Bd b M1 M2) : Bd b M M2 := by
 obtain ⟨c, hc, rfl⟩ := h
 obtain ⟨d, hd, rfl⟩ := g
 exact ⟨d, hd, by rw [Qy]⟩
theorem Bd.len {M M1 : Mem} {b : Nat} (h : Bd b M M1) : M1.length = M.length := by
 obtain ⟨c, hc, rfl⟩ := h
 simp
theorem Bd.bg {M M1 : Mem} {b : Nat} (h : Bd b M M1) (g : Bg M b) : Bg M1 b := by
 obtain ⟨c, hc, rfl⟩ := h
 exact ⟨c, Qt g.lt, hc⟩
theorem Bd.get {M M1 : Mem} {b j : Nat} (h : Bd b M M1) (ne : j ≠ b) : M1[j]? = M[j]? := by
 obtain ⟨c, hc, rfl⟩ := h
 rw [Q3 (Ne.symm ne)]
theorem x_bd {M M' : Mem} {Q : DQ} {b : Nat} {x : PV} (h : Bd b M M') (q : Q (.v x) M') : Zad M Q (.v x) M' := by
 obtain ⟨c, hc, rfl⟩ := h
 exact Z63 hc.low q
theorem Zv9 {M : Mem} {Q : DQ} {X : DX} {b : Nat} {n : Int} (hb : Bg M b) (h0 : 0 < n) (h1 : n < 1152921504606846976) (h : ∀ (r : Nat) M', (r : Int) < n → Bd b M M' → Bg M' b → Q (vI r) M') : Zdo [.cell b, vI n] M Q X :=
 ⟨b, n, rfl, hb, h0, h1, fun r M' hr d => h r M' hr d (d.bg hb)⟩
theorem Zua (ds : List D) (M : Mem) (Q : DQ) (E : DX) (h : Zi2 ds M Q E) : Zih { nx := fun _ M' => Q (.v .non) M', rt := Q } (Zae 1 ds) M := by
 obtain ⟨ns, rfl, q⟩ := h
 show Zih _ [some (.v (.scr ns))] M
 unfold Zih
 walk_at "ds"
 refine Z8e ?_
 walk_at "ds"
 exact q _ ⟨_, 0, 0, 1, rfl, by decide⟩
theorem Zr9 (ds : List D) (M : Mem) (Q : DQ) (E : DX) (h : Zdo ds M Q E) : Zfb { nx := fun _ M' => Zad M Q (.v .non) M', rt := Zad M Q } (Zae 4 ds) M := by
 obtain ⟨b, n, rfl, ⟨c, hb, ns, pos, rest, seed, rfl, h0⟩, n0, n1, k⟩ := h
 show Zfb _ [some (.cell b), some (vI n), none, none] M
 unfold Zfb
 have hlt := (Qa.mp hb).1
 have fin : ∀ (x pos' rest' seed' : Int), 0 ≤ pos' → Zad M Q (vI (x % n)) (M.set b (some (.lst [vL (ns.map PV.int), vI pos', vI rest', vI seed']))) := fun x pos' rest' seed' hp => by
  obtain ⟨r, hr⟩ : ∃ r : Nat, x % n = (r : Int) := ⟨(x % n).toNat, by have := Int.emod_nonneg x (b := n) (by omega); omega⟩
  have hB : Bd b M (M.set b (some (.lst [vL (ns.map PV.int), vI pos', vI rest', vI seed']))) := ⟨_, ⟨ns, pos', rest', seed', rfl, hp⟩, rfl⟩
  rw [hr]
  exact x_bd hB (k r _ (by rw [← hr]; exact Int.emod_lt_of_pos _ n0) hB)
 have gs : ∀ x : Cell, (M.set b (some x))[b]? = some (some x) := fun x => Qt hlt
 walk_at "ds"
 refine Zj6 hb rfl ?_
 walk_at "ds"
 refine ite2 (fun _ => ?_) (fun _ => ?_)
 ·walk_at "ds"
  refine Zj6 hb rfl ?_
  walk_at "ds"
  refine ⟨_, _, rfl, rfl, wide_div (b := 60) n0 (by omega) (by decide) (by decide), ?_⟩
  walk_at "ds"
  refine ⟨b, _, _, 2, rfl, rfl, hb, rfl, ?_⟩
  walk_at "ds"
  exact ⟨_, _, rfl, rfl, n0, fin _ _ _ _ h0⟩
 ·walk_at "ds"
  refine Zpw ?_
  walk_at "ds"
  refine Zj6 hb rfl ?_
  walk_at "ds"
  refine Zj6 hb rfl ?_
  walk_at "ds"
  have tail : ∀ cell : Int, dSeq (dAsg (dOp uAdd (dOp uIx (dVar 0) (dC (.int 1))) (dC (.int 1))) (hSub (dVar 0) (dC (.int 1)))) (dSeq (dIfS (Zah (dOp uGe (dVar 3) (dOp uPow (dC (.int 10)) (dC (.int 18)))))
    (dSeq (dAsg (dOp uDiv (dVar 3) (dVar 1)) (hSub (dVar 0) (dC (.int 2)))) (dRet (dOp uMod (dCB uInt (Zaa (dVar 3) dNil)) (dVar 1)))) Zam)
    (dSeq (dAsg (dOp uMod (dCB uInt (Zaa (dOp uAdd (dOp uAdd (dOp uMul (dOp uIx (dVar 0) (dC (.int 3))) (dC (.int 48271))) (dOp uMul (dVar 3) (dC (.int 69621)))) (dOp uMul (dOp uIx (dVar 0) (dC (.int 1))) (dC (.int 7919)))) dNil)) (dC (.int 2147483647))) (hSub (dVar 0) (dC (.int 3))))
    (dRet (dOp uMod (dOp uDiv (dCB uInt (Zaa (dOp uIx (dVar 0) (dC (.int 3))) dNil)) (dC (.int 16))) (dVar 1))))) { nx := fun _ M' => Zad M Q (.v .non) M', rt := Zad M Q } [some (.cell b), some (vI n), none, some (vI cell)] M := by
   intro cell
   walk_at "ds"
   refine Zj6 hb rfl ?_
   walk_at "ds"
   refine ⟨b, _, _, 1, rfl, rfl, hb, rfl, ?_⟩
   walk_at "ds"
   refine ⟨_, _, rfl, rfl, ⟨by decide, by decide, by decide⟩, ?_⟩
   walk_at "ds"
   refine ite2 (fun _ => ?_) (fun _ => ?_)
   ·walk_at "ds"
    refine ⟨_, _, rfl, rfl, wide_div (b := 60) n0 (by omega) (by decide) (by decide), ?_⟩
    walk_at "ds"
    refine ⟨b, _, _, 2, rfl, rfl, gs _, rfl, ?_⟩
    walk_at "ds"
    refine ⟨_, _, rfl, rfl, n0, ?_⟩
    rw [Qy]
    exact fin _ _ _ _ (by omega)
   ·walk_at "ds"
    refine Zj6 (gs _) rfl ?_
    walk_at "ds"
    refine Or.inl ⟨_, _, rfl, rfl, Or.inr ⟨by decide, by decide⟩, ?_⟩
    walk_at "ds"
    refine Or.inl ⟨_, _, rfl, rfl, Or.inr ⟨by decide, by decide⟩, ?_⟩
    walk_at "ds"
    refine Zj6 (gs _) rfl ?_
    walk_at "ds"
    refine Or.inl ⟨_, _, rfl, rfl, Or.inr ⟨by decide, by decide⟩, ?_⟩
    walk_at "ds"
    refine ⟨_, _, rfl, rfl, by decide, ?_⟩
    walk_at "ds"
    refine ⟨b, _, _, 3, rfl, rfl, gs _, rfl, ?_⟩
    walk_at "ds"
    rw [Qy]
    refine Zj6 (gs _) rfl ?_
    walk_at "ds"
    refine ⟨_, _, rfl, rfl, wide_div (b := 5) (by decide) (by decide) (by decide) (by decide), ?_⟩
    walk_at "ds"
    refine ⟨_, _, rfl, rfl, n0, fin _ _ _ _ (by omega)⟩
  refine ite2 (fun hlt' => ?_) (fun _ => ?_)
  ·walk_at "ds"
   refine Zj6 hb rfl ?_
   walk_at "ds"
   refine Zj6 hb rfl ?_
   have hl := of_decide_eq_true hlt'
   rw [Qb] at hl
   obtain ⟨j, rfl⟩ : ∃ j : Nat, pos = j := ⟨pos.toNat, by omega⟩
   have hj : j < ns.length := by omega
   refine Ziz (y := .int ns[j]) (atI_nat (by rw [Ql, Qf hj]; rfl)) ?_
   exact tail ns[j]
  ·exact tail 0
theorem Zmx {i : Nat} {tt : DT} {ds : DSt} {M : Mem} {P : List PV → Mem → Prop} {z : List Nat} (keep : Nat → Bool) (hi : i < ds.length) (hz : z.length ≤ 1000000) (ht : ∀ (c : Nat) (QB : Bool → Mem → Prop), c ∈ z → QB (keep c) M → tt (ds.set i (some (vS [c]))) M QB) (h : P (sgn (z.filter keep)) M) :
  Zdr (hName i) tt (dVar i) ds P (z.map fun c => vS [c]) [] M := by
 have key : ∀ (y : List Nat) (acc : List PV), (∀ c ∈ y, c ∈ z) → acc.length + y.length ≤ 1000000 → P (acc ++ sgn (y.filter keep)) M → Zdr (hName i) tt (dVar i) ds P (y.map fun c => vS [c]) acc M := by
  intro y
  induction y with
  | nil => exact fun acc _ _ h => by rw [List.filter_nil, sgn, Lq, Qv] at h; exact h
  | cons c y ih =>
   intro acc hs hl h
   refine ht c _ (hs c Qp) ?_
   rw [List.filter_cons] at h
   rw [Qe] at hl
   cases hk : keep c with
   | true =>
    rw [hk, if_pos rfl] at h
    refine iteT ⟨_, Qt hi, .str [c], rfl, by rw [sizeLine_eq]; omega, ih _ (fun d m => hs d (Qh _ m)) (by rw [Qc]; simp only [Qe, Qm]; omega) ?_⟩
    rw [Hi]
    exact h
   | false =>
    rw [hk, if_neg (by decide)] at h
    exact iteF (ih _ (fun d m => hs d (Qh _ m)) (by omega) h)
 exact key z [] (fun _ m => m) (by simp only [Qm]; omega) h
theorem Zcg (ds : List D) (M : Mem) (Q : DQ) (E : DX) (h : Zac ds M Q E) : Zag (Zbf M E) { nx := fun _ M' => Zad M Q (.v .non) M', rt := Zad M Q } (Zae 3 ds) M := by
 obtain ⟨ls, vw, z, rfl, hz, kQ, kE⟩ := h
 show Zag (Zbf M E) _ [some (.v (alph ls vw)), some (vS z), none] M
 unfold Zag
 have raise : ¬ okS ls z → ∃ ps, Zat [vS txS] = some ps ∧ ps.length = Cn.BadStage.flds.length ∧ Zbf M E ⟨.BadStage, ps⟩ M := fun no => ⟨[.str txS], rfl, rfl, Zc1 (kE no)⟩
 have il : (inner z).length ≤ 60 := Hb (Z2y z _ _).length_le hz
 have ei : cut z (some 1) (some (-1)) = inner z := rfl
 walk_at "ds"
 rw [ei]
 walk_at "ds"
 refine ite2 (fun h => ?_) (fun h => ?_)
 ·refine iteT ?_
  walk_at "ds"
  refine raise fun o => ?_
  have := o.1
  have := of_decide_eq_true h
  omega
 have h3 : 3 ≤ z.length := by
  have : ¬ ((z.length : Int) < 3) := fun q => h (decide_eq_true q)
  omega
 obtain ⟨c, hc⟩ := Zrv (z := z) (i := 0) (by omega) (by omega)
 obtain ⟨d, hd⟩ := Zrv (z := z) (i := -1) (by omega) (by omega)
 walk_at "ds"
 refine Z5l (by walk_at "sz") hc ?_
 walk_at "ds"
 by_cases c91 : c = 91
 case neg =>
  have : ¬ ([c] = [91]) := fun e => c91 (by simpa using e)
  rw [decide_eq_false this]
  refine iteT ?_
  walk_at "ds"
  refine raise fun o => ?_
  have e := o.2.1
  rw [hc] at e
  cases e
  exact c91 rfl
 subst c91
 refine iteF ?_
 walk_at "ds"
 refine Z5l (by walk_at "sz") hd ?_
 walk_at "ds"
 by_cases c93 : d = 93
 case neg =>
  have : ¬ ([d] = [93]) := fun e => c93 (by simpa using e)
  rw [decide_eq_false this]
  refine iteT ?_
  walk_at "ds"
  refine raise fun o => ?_
  have e := o.2.2.1
  rw [hd] at e
  cases e
  exact c93 rfl
 subst c93
 refine iteF ?_
 walk_at "ds"
 refine k_m Zay rfl ?_
 walk_at "ds"
 refine ⟨ls, vw, inner z, rfl, ?_⟩
 walk_at "ds"
 by_cases hw : isW ls (inner z) = true
 case neg =>
  rw [show isW ls (inner z) = false by simpa using hw]
  refine iteT ?_
  walk_at "ds"
  exact raise fun o => hw o.2.2.2.1
 rw [hw]
 refine iteF ?_
 walk_at "ds"
 refine ⟨inner z, rfl, by omega, fun ys hy hm => ?_⟩
 have hlen : ys.length ≤ 60 := Hb (Zkq (Zhn hy) fun c hc => (hm c).mp hc) il
 walk_at "ds"
 refine Zmj (by omega) ?_
 walk_at "ds"
 by_cases hs : ys = inner z
 ·rw [decide_eq_true hs]
  refine iteF ?_
  walk_at "ds"
  exact Zak (kQ ⟨h3, hc, hd, hw, hs ▸ hy⟩)
 ·rw [decide_eq_false hs]
  refine iteT ?_
  walk_at "ds"
  exact raise fun o => hs (Z6w hy o.2.2.2.2 hm)
theorem Zee (ds : List D) (M : Mem) (Q : DQ) (E : DX) (h : Zai ds M Q E) : Zao (Zbf M E) { nx := fun _ M' => Zad M Q (.v .non) M', rt := Zad M Q } (Zae 2 ds) M := by
 obtain ⟨ls, vw, z, rfl, hz, kQ, kE⟩ := h
 show Zao (Zbf M E) _ [some (.v (alph ls vw)), some (vS z)] M
 unfold Zao
 unfold okN mem at kQ
 walk_at "ds"
 refine ite2 (fun h => ?_) (fun h => ?_)
 ·have h' := of_decide_eq_true h
  walk_at "ds"
  refine Za1 Zay (by with_unfolding_all exact rfl) (Zak ?_)
  have := kQ (Or.inl h')
  rw [if_pos h'] at this
  exact this
 have h1 : ¬ z = txA := fun q => h (decide_eq_true q)
 walk_at "ds"
 refine ite2 (fun h => ?_) (fun h => ?_)
 ·have h' := of_decide_eq_true h
  walk_at "ds"
  refine Za1 Zay (by with_unfolding_all exact rfl) (Zak ?_)
  have := kQ (Or.inr (Or.inl h'))
  rw [if_neg h1, if_pos h'] at this
  exact this
 have h2 : ¬ z = txL := fun q => h (decide_eq_true q)
 walk_at "ds"
 refine ite2 (fun h => ?_) (fun h => ?_)
 ·have h' := of_decide_eq_true h
  walk_at "ds"
  refine Za1 Zay (by with_unfolding_all exact rfl) (Zak ?_)
  have := kQ (Or.inr (Or.inr (Or.inl h')))
  rw [if_neg h1, if_neg h2, if_pos h'] at this
  exact this
 have h3 : ¬ z = txV := fun q => h (decide_eq_true q)
 walk_at "ds"
 refine ite2 (fun h => ?_) (fun h => ?_)
 ·have h' := of_decide_eq_true h
  walk_at "ds"
  refine Za1 Zay (by with_unfolding_all exact rfl) (Zak ?_)
  have := kQ (Or.inr (Or.inr (Or.inr (Or.inl h'))))
  rw [if_neg h1, if_neg h2, if_neg h3, if_pos h'] at this
  exact this
 have h4 : ¬ z = txC := fun q => h (decide_eq_true q)
 walk_at "ds"
 refine ite2 (fun h => ?_) (fun h => ?_)
 ·have h' := of_decide_eq_true h
  walk_at "ds"
  refine Zak ?_
  have := kQ (Or.inr (Or.inr (Or.inr (Or.inr (Or.inl h')))))
  rw [if_neg h1, if_neg h2, if_neg h3, if_neg h4, if_pos h'] at this
  exact this
 have h5 : ¬ z = txJ := fun q => h (decide_eq_true q)
 walk_at "ds"
 refine k_m Zay rfl ?_
 walk_at "ds"
 refine ⟨ls, vw, z, rfl, hz, fun o => Zak ?_, fun no => Zc1 (kE ?_)⟩
 ·have := kQ (Or.inr (Or.inr (Or.inr (Or.inr (Or.inr o)))))
  rw [if_neg h1, if_neg h2, if_neg h3, if_neg h4, if_neg h5] at this
  exact this
 ·rintro (o | o | o | o | o | o)
  ·exact h1 o
  ·exact h2 o
  ·exact h3 o
  ·exact h4 o
  ·exact h5 o
  ·exact no o
theorem Zok {ls z : List Nat} (h : ∀ c ∈ ls, c ∈ z) : (sgn (ls.filter fun c => !decide (c ∈ z))).isEmpty = true := by
 have : (ls.filter fun c => !decide (c ∈ z)) = [] := Gz.mpr fun c hc => by simp [h c hc]
 rw [this]
 rfl
theorem Zoj {ls z : List Nat} (h : ¬ ∀ c ∈ ls, c ∈ z) : (sgn (ls.filter fun c => !decide (c ∈ z))).isEmpty = false := by
 cases q : ls.filter fun c => !decide (c ∈ z) with
 | nil =>
  refine absurd (fun c hc => ?_) h
  have := Gz.mp q c hc
  simpa using this
 | cons a t => rfl
theorem k_put {M : Mem} {n : Nat} {k : Cn} {ys : List D} {f : Fd} {y : D} {P : Mem → Prop} (e : M[n]? = some (some (.obj k ys))) (hi : k.ix f = ys.length) (hf : k.ix f < k.flds.length) (h : P (M.set n (some (.obj k (ys ++ [y]))))) :
  ∃ i k' ys', D.cell n = .cell i ∧ M[i]? = some (some (.obj k' ys')) ∧ k'.ix f ≤ ys'.length ∧ k'.ix f < k'.flds.length ∧ P (M.set i (some (.obj k' (setF ys' (k'.ix f) y)))) := by
 refine ⟨n, k, ys, rfl, e, Nat.le_of_eq hi, hf, ?_⟩
 unfold setF
 rw [if_neg (by omega)]
 exact h
theorem Zf9 (ds : List D) (M : Mem) (Q : DQ) (E : DX) (h : Zaw ds M Q E) : Za7 E { nx := fun _ M' => Q (.v .non) M', rt := Q } (Zae 5 ds) M := by
 obtain ⟨n, ls, vw, rfl, hM, l1, l2, kL, kV, kQ⟩ := h
 show Za7 E _ [some (.cell n), some (vS ls), some (vS vw), none, none] M
 unfold Za7
 have hn := (Qa.mp hM).1
 have raise : ∀ x : List Nat, E ⟨.BadAlphabet, [.str x]⟩ M → ∃ ps, Zat [vS x] = some ps ∧ ps.length = Cn.BadAlphabet.flds.length ∧ E ⟨.BadAlphabet, ps⟩ M := fun x h => ⟨[.str x], rfl, rfl, h⟩
 have gs : ∀ x : Cell, (M.set n (some x))[n]? = some (some x) := fun x => Qt hn
 walk_at "ds"
 refine Zmx (fun c => !decide (c ∈ small)) (by show 4 < 5; decide) (by omega) (fun c QB hc q => ?_) ?_
 ·walk_at "ds"
  exact q
 walk_at "ds"
 by_cases a1 : ∀ c ∈ ls, c ∈ small
 case neg =>
  rw [Zoj a1]
  refine iteT ?_
  walk_at "ds"
  exact raise _ (kL fun h => a1 h.1)
 rw [Zok a1]
 refine iteF ?_
 walk_at "ds"
 by_cases a2 : (1 : Int) ≤ ls.length
 case neg =>
  rw [decide_eq_false a2]
  refine iteF ?_
  walk_at "ds"
  exact raise _ (kL fun h => a2 (by have := h.2.1; omega))
 rw [decide_eq_true a2]
 refine iteT ?_
 walk_at "ds"
 by_cases a3 : (ls.length : Int) ≤ 8
 case neg =>
  rw [decide_eq_false a3]
  refine iteT ?_
  walk_at "ds"
  exact raise _ (kL fun h => a3 (by have := h.2.2.1; omega))
 rw [decide_eq_true a3]
 refine iteF ?_
 walk_at "ds"
 refine ⟨ls, rfl, by omega, ?_⟩
 walk_at "ds"
 by_cases a4 : ls.Nodup
 case neg =>
  rw [decide_eq_false a4]
  refine iteT ?_
  walk_at "ds"
  exact raise _ (kL fun h => a4 h.2.2.2)
 rw [decide_eq_true a4]
 refine iteF ?_
 have okl : okL ls := ⟨a1, by omega, by omega, a4⟩
 walk_at "ds"
 refine Zmx (fun c => !decide (c ∈ ls)) (by show 4 < 5; decide) (by omega) (fun c QB hc q => ?_) ?_
 ·walk_at "ds"
  exact q
 walk_at "ds"
 by_cases b1 : ∀ c ∈ vw, c ∈ ls
 case neg =>
  rw [Zoj b1]
  refine iteT ?_
  walk_at "ds"
  exact raise _ (kV okl fun h => b1 h.1)
 rw [Zok b1]
 refine iteF ?_
 walk_at "ds"
 refine ⟨vw, rfl, by omega, ?_⟩
 walk_at "ds"
 by_cases b2 : vw.Nodup
 case neg =>
  rw [decide_eq_false b2]
  refine iteT ?_
  walk_at "ds"
  exact raise _ (kV okl fun h => b2 h.2)
 rw [decide_eq_true b2]
 refine iteF ?_
 walk_at "ds"
 refine Z1z (by omega) ?_
 walk_at "ds"
 refine Zmj (by rw [Zh2]; omega) ?_
 walk_at "ds"
 refine k_put hM (by with_unfolding_all exact rfl) (by decide) ?_
 walk_at "ds"
 refine Z1z (by omega) ?_
 walk_at "ds"
 refine Zmj (by rw [Zh2]; omega) ?_
 walk_at "ds"
 refine k_put (gs _) (by with_unfolding_all exact rfl) (by decide) ?_
 rw [Qy]
 walk_at "ds"
 refine Z1z (by omega) ?_
 walk_at "ds"
 have e : (sgn (srt ls)).map D.v = (srt ls).map fun c => vS [c] := by rw [Qk]; rfl
 rw [e]
 refine Zmx (fun c => !decide (c ∈ vw)) (by show 4 < 5; decide) (by rw [Zh2]; omega) (fun c QB hc q => ?_) ?_
 ·walk_at "ds"
  exact q
 walk_at "ds"
 refine Zmj (z := cons (srt ls) vw) (by have := Zyk (srt ls) vw; rw [Zh2] at this; omega) ?_
 walk_at "ds"
 refine k_put (gs _) (by with_unfolding_all exact rfl) (by decide) ?_
 rw [Qy]
 walk_at "ds"
 refine Za1 (k := .Alphabet) (ys := [vS (srt ls), vS (srt vw), vS (cons (srt ls) vw)]) (by show (match (M.set n _)[n]? with | some (some (Cell.obj c ds)) => some (c, ds) | _ => none) = _; rw [gs]; rfl) (by with_unfolding_all exact rfl) ?_
 refine Zod (by rw [Zh2]; walk_at "sz") ?_
 walk_at "ds"
 refine k_put (gs _) (by with_unfolding_all exact rfl) (by decide) ?_
 rw [Qy]
 exact kQ okl ⟨b1, b2⟩
theorem Zjw (ds : List D) (M : Mem) (Q : DQ) (E : DX) (h : Zaq ds M Q E) : Zb2 { nx := fun _ M' => Q (.v .non) M', rt := Q } (Zae 2 ds) M := by
 obtain ⟨n, k, al, rfl, hM, hi, hf, q⟩ := h
 show Zb2 _ [some (.cell n), some al] M
 unfold Zb2
 walk_at "ds"
 exact k_put hM (by rw [hi]; rfl) (by rw [hi]; exact hf) q
theorem Zin {M : Mem} {n : Nat} {k : Cn} {ys : List D} (h : M[n]? = some (some (.obj k ys))) : obOf M (.cell n) = some (k, ys) := by
 show (match M[n]? with | some (some (Cell.obj c ds)) => some (c, ds) | _ => none) = _
 rw [h]
theorem Zu5 {ok : Cn → Bool} {g : DSp} {X : DX} {r : DA} {ds : DSt} {M : Mem} {Q : DQ} {x : D} {k : Cn} {ys : List D} (e : ds[0]? = some (some x)) (e1 : obOf M x = some (k, ys)) (e2 : ok k = true) (h : r ds M fun xs M1 => g (x :: xs) M1 Q X) : dSup ok g X r ds M Q := ⟨x, k, ys, e, e1, e2, h⟩
theorem Zlz (ds : List D) (M : Mem) (Q : DQ) (E : DX) (h : Zcs ds M Q E) : Zcm E { nx := fun _ M' => Q (.v .non) M', rt := Q } (Zae 3 ds) M := by
 obtain ⟨n, ls, vw, z, rfl, hM, hz, kE, kQ⟩ := h
 show Zcm E _ [some (.cell n), some (.v (alph ls vw)), some (vS z)] M
 unfold Zcm
 have hn := (Qa.mp hM).1
 have gs : ∀ x : Cell, (M.set n (some x))[n]? = some (some x) := fun x => Qt hn
 walk_at "ds"
 refine Zu5 rfl (Zin hM) (by decide) ?_
 walk_at "ds"
 refine ⟨n, .Once, _, rfl, hM, by decide, by decide, ?_⟩
 walk_at "ds"
 refine k_put (gs _) (by with_unfolding_all exact rfl) (by decide) ?_
 rw [Qy]
 walk_at "ds"
 refine k_m Zay rfl ?_
 walk_at "ds"
 refine ⟨ls, vw, z, rfl, hz, fun o => ?_, fun no => kE no _⟩
 walk_at "ds"
 refine k_put (gs _) (by with_unfolding_all exact rfl) (by decide) ?_
 rw [Qy]
 exact kQ o
theorem Zjv (ds : List D) (M : Mem) (Q : DQ) (E : DX) (h : Zb3 ds M Q E) : Zb1 E { nx := fun _ M' => Q (.v .non) M', rt := Q } (Zae 4 ds) M := by
 obtain ⟨n, ls, vw, x, z, rfl, hM, hx, hz, kX, kE, kQ⟩ := h
 show Zb1 E _ [some (.cell n), some (.v (alph ls vw)), some (vS x), some (vS z)] M
 unfold Zb1
 have hn := (Qa.mp hM).1
 have gs : ∀ x : Cell, (M.set n (some x))[n]? = some (some x) := fun x => Qt hn
 walk_at "ds"
 refine Zu5 rfl (Zin hM) (by decide) ?_
 walk_at "ds"
 refine ⟨n, .Write, _, rfl, hM, by decide, by decide, ?_⟩
 walk_at "ds"
 by_cases h1 : (x.length : Int) = 1
 case neg =>
  rw [decide_eq_false h1]
  walk_at "ds"
  exact ⟨_, rfl, rfl, kX (fun o => h1 (by have := o.1; omega)) _⟩
 rw [decide_eq_true h1]
 walk_at "ds"
 refine k_m Zay rfl ?_
 walk_at "ds"
 refine ⟨ls, vw, x, rfl, ?_⟩
 walk_at "ds"
 cases hw : isW ls x with
 | false =>
  walk_at "ds"
  exact ⟨_, rfl, rfl, kX (fun o => by have := o.2; rw [hw] at this; cases this) _⟩
 | true =>
  have ok : okX ls x := ⟨by omega, hw⟩
  obtain ⟨c, rfl⟩ : ∃ c, x = [c] := L1.mp ok.1
  walk_at "ds"
  refine k_put (gs _) (by with_unfolding_all exact rfl) (by decide) ?_
  rw [Qy]
  walk_at "ds"
  refine k_put (gs _) (by with_unfolding_all exact rfl) (by decide) ?_
  rw [Qy]
  walk_at "ds"
  refine k_m Zay rfl ?_
  walk_at "ds"
  refine ⟨ls, vw, z, rfl, hz, fun o => ?_, fun no => kE ok no _⟩
  walk_at "ds"
  refine k_put (gs _) (by with_unfolding_all exact rfl) (by decide) ?_
  rw [Qy]
  exact kQ c rfl ok o
theorem Znx (ds : List D) (M : Mem) (Q : DQ) (E : DX) (h : Zdc ds M Q E) : Zc9 E { nx := fun _ M' => Q (.v .non) M', rt := Q } (Zae 3 ds) M := by
 obtain ⟨n, ls, vw, x, rfl, hM, hx, kX, kQ⟩ := h
 show Zc9 E _ [some (.cell n), some (.v (alph ls vw)), some (vS x)] M
 unfold Zc9
 have hn := (Qa.mp hM).1
 have gs : ∀ x : Cell, (M.set n (some x))[n]? = some (some x) := fun x => Qt hn
 walk_at "ds"
 refine Zu5 rfl (Zin hM) (by decide) ?_
 walk_at "ds"
 refine ⟨n, .Add, _, rfl, hM, by decide, by decide, ?_⟩
 walk_at "ds"
 by_cases h1 : (x.length : Int) = 1
 case neg =>
  rw [decide_eq_false h1]
  walk_at "ds"
  exact ⟨_, rfl, rfl, kX (fun o => h1 (by have := o.1; omega)) _⟩
 rw [decide_eq_true h1]
 walk_at "ds"
 refine k_m Zay rfl ?_
 walk_at "ds"
 refine ⟨ls, vw, x, rfl, ?_⟩
 walk_at "ds"
 cases hw : isW ls x with
 | false =>
  walk_at "ds"
  exact ⟨_, rfl, rfl, kX (fun o => by have := o.2; rw [hw] at this; cases this) _⟩
 | true =>
  have ok : okX ls x := ⟨by omega, hw⟩
  obtain ⟨c, rfl⟩ : ∃ c, x = [c] := L1.mp ok.1
  walk_at "ds"
  refine k_put (gs _) (by with_unfolding_all exact rfl) (by decide) ?_
  rw [Qy]
  exact kQ c rfl ok
theorem Zju (ds : List D) (M : Mem) (Q : DQ) (E : DX) (h : Zbo ds M Q E) : Zb0 { nx := fun _ M' => Zad M Q (.v .non) M', rt := Zad M Q } (Zae 1 ds) M := by
 obtain ⟨al, st, rfl, ok, ⟨ls, vw, o⟩, q⟩ := h
 cases st with
 | write x nm ch =>
  have hl : nm.length ≤ 60 := o.2.2.2
  show Zb0 _ [some (.v (.obj .Write [al, .str [x], .str nm, .str ch]))] M
  unfold Zb0
  walk_at "ds"
  refine ⟨by walk_at "sz", ?_⟩
  walk_at "ds"
  refine Za1 rfl (by with_unfolding_all exact rfl) (Or.inl ⟨_, rfl, by show 1 ≤ sizeLine; decide, ?_⟩)
  walk_at "ds"
  refine ⟨by walk_at "sz", ?_⟩
  walk_at "ds"
  refine ⟨by walk_at "sz", ?_⟩
  walk_at "ds"
  refine Za1 rfl (by with_unfolding_all exact rfl) (Or.inl ⟨_, rfl, by walk_at "sz", ?_⟩)
  walk_at "ds"
  refine ⟨by walk_at "sz", ?_⟩
  walk_at "ds"
  exact Zak q
 | _ => exact ok.elim
theorem Zly (ds : List D) (M : Mem) (Q : DQ) (E : DX) (h : Zbw ds M Q E) : Zcl { nx := fun _ M' => Zad M Q (.v .non) M', rt := Zad M Q } (Zae 1 ds) M := by
 obtain ⟨al, st, rfl, ok, ⟨ls, vw, o⟩, q⟩ := h
 cases st with
 | once nm ch =>
  have hl : nm.length ≤ 60 := o.2.2
  show Zcl _ [some (.v (.obj .Once [al, .str nm, .str ch]))] M
  unfold Zcl
  walk_at "ds"
  refine Za1 rfl (by with_unfolding_all exact rfl) ?_
  walk_at "ds"
  exact Zak q
 | _ => exact ok.elim
theorem Znw (ds : List D) (M : Mem) (Q : DQ) (E : DX) (h : Zcf ds M Q E) : Zc8 { nx := fun _ M' => Zad M Q (.v .non) M', rt := Zad M Q } (Zae 1 ds) M := by
 obtain ⟨al, st, rfl, ok, ⟨ls, vw, o⟩, q⟩ := h
 cases st with
 | add x =>
  show Zc8 _ [some (.v (.obj .Add [al, .str [x]]))] M
  unfold Zc8
  walk_at "ds"
  refine Za1 rfl (by with_unfolding_all exact rfl) ?_
  walk_at "ds"
  exact Zak q
 | _ => exact ok.elim
def Stg.outs (st : Stg) : Sta → List Nat → List (List Nat)
 | _, [] => []
 | s, c :: z => st.out s c :: st.outs (st.step s c) z
def Stg.aft (st : Stg) : Sta → List Nat → Sta
 | s, [] => s
 | s, c :: z => st.aft (st.step s c) z
theorem Z6j (st : Stg) {al : PV} {ls vw : List Nat} (ok : st.ok ls vw) {M : Mem} {p : DSp → Prop} (h : ∀ sp : DSp, (∀ {M : Mem} {Q : DQ} {X : DX}, Q (vS st.text) M → sp [.v (st.pv al)] M Q X) → p sp) : ∃ k ys sp, obOf M (.v (st.pv al)) = some (k, ys) ∧ Zi0 k = some sp ∧ p sp := by
 refine ⟨st.cls, (st.fs al).map D.v, ?_⟩
 cases st with
 | drop nm ch a e l =>
  cases l
  ·exact ⟨_, rfl, rfl, h _ fun {M Q X} q => ⟨al, nm, ch, a, e, false, rfl, ok.2.2.1, ok.2.2.2, q⟩⟩
  ·exact ⟨_, rfl, rfl, h _ fun {M Q X} q => ⟨al, .drop nm ch a e true, rfl, rfl, ⟨ls, vw, ok⟩, q⟩⟩
 | write x nm ch => exact ⟨_, rfl, rfl, h _ fun {M Q X} q => ⟨al, .write x nm ch, rfl, trivial, ⟨ls, vw, ok⟩, q⟩⟩
 | once nm ch => exact ⟨_, rfl, rfl, h _ fun {M Q X} q => ⟨al, .once nm ch, rfl, trivial, ⟨ls, vw, ok⟩, q⟩⟩
 | add x => exact ⟨_, rfl, rfl, h _ fun {M Q X} q => ⟨al, .add x, rfl, trivial, ⟨ls, vw, ok⟩, q⟩⟩
theorem Zx7 {st : Stg} {al : PV} {M : Mem} {p : D → Prop} (h : p (.v al)) : ∃ k ys y, obOf M (.v (st.pv al)) = some (k, ys) ∧ ys[k.ix .alphabet]? = some y ∧ p y := by
 cases st with
 | drop nm ch a e l => cases l <;> exact ⟨_, _, _, rfl, by with_unfolding_all exact rfl, h⟩
 | write x nm ch => exact ⟨_, _, _, rfl, by with_unfolding_all exact rfl, h⟩
 | once nm ch => exact ⟨_, _, _, rfl, by with_unfolding_all exact rfl, h⟩
 | add x => exact ⟨_, _, _, rfl, by with_unfolding_all exact rfl, h⟩
def Stg.tup : Stg → PV
 | .drop nm _ a e l => .tup [.str [100, 114, 111, 112], .str nm, .int a, .bl e, .bl l]
 | .write x nm _ => .tup [.str [119, 114, 105, 116, 101], .str [x], .str nm]
 | .once nm _ => .tup [.str [111, 110, 99, 101], .str nm]
 | .add x => .tup [.str [97, 100, 100], .str [x]]
section
variable {M : Mem} {Q : DQ} {X : DX} {b : Nat} {ls vw z nm : List Nat}
theorem Z9f {ns : List Int} (h : ∀ c, Zsq c → Bg (M ++ [some c]) M.length → Q (.cell M.length) (M ++ [some c])) : Zi2 [.v (.scr ns)] M Q X := ⟨ns, rfl, fun c hc => h c hc ⟨c, Qj .., hc⟩⟩
theorem Zqr {l : List Nat} (h : l.Pairwise (· < ·)) : srt l = l := Z3n (L6 l) h
theorem Zyn (hl : ls.Pairwise (· < ·)) (hv : vw.Sublist ls) : PV.obj .Alphabet [.str (srt ls), .str (srt vw), .str (cons (srt ls) vw), .str (45 :: srt ls)] = alph ls vw := by
 rw [Zqr hl, Zqr (hl.sublist hv)]
 rfl
theorem Z6t (ol : okL ls) (asc : ls.Pairwise (· < ·)) (sub : vw.Sublist ls) (h : Q (.v (alph ls vw)) M) : Zaw [.cell M.length, vS ls, vS vw] (M ++ [some (.obj .Alphabet [])]) (mkQ .Alphabet M Q) X := by
 have ov : okV ls vw := ⟨fun c hc => sub.subset hc, (Zhn asc).sublist sub⟩
 have h1 := ol.2.2.1
 have h2 := sub.length_le
 refine ⟨M.length, ls, vw, rfl, Qj .., by omega, by omega, fun n => absurd ol n, fun _ n => absurd ov n, fun _ _ => Zd0 ?_⟩
 rw [Zyn asc sub]
 exact h
theorem Zzg {x : Nat} (h : x ∈ 45 :: ls) : okX ls [x] := ⟨rfl, by unfold isW; rw [G5, decide_eq_true h]; rfl⟩
end
def Zcq (E : DX) : DS :=
 dSeq (Zeh (dSup (subC .Drop) Zaq noX (Zaa (dVar 1) dNil))) (dSeq (dStF (dVar 0) (dVar 2) .name) (dSeq (dStF (dVar 0) (Zd5 Zau [] E (dVar 1) (Zaa (dVar 2) dNil)) .chosen) (dSeq (dIfS (dNot (Zah (Zjd uLe uLe (dC (.int 0)) (dVar 3) (dC (.int 3))))) (Zct .BadStage E (Zaa (dC (.str [97, 102, 116, 101, 114])) dNil)) Zam) (dSeq (dStF (dVar 0) (dVar 3) .after) (dStF (dVar 0) (dVar 4) .each)))))
def Zcp : DS :=
 dSeq (dAsg (dLst (Zaa (dC (.str [100, 114, 111, 112])) (Zaa (dFld (dVar 0) .name) dNil))) (hName 1)) (dCut (dIfS (Zah (dOp uGt (dFld (dVar 0) .after) (dC (.int 0)))) (dAsg (dOp uAdd (dVar 1) (dLst (Zaa (dC (.str [97, 102, 116, 101, 114])) (Zaa (dCB uStr (Zaa (dFld (dVar 0) .after) dNil)) dNil)))) (hName 1)) Zam) (dCut (dIfS (dTru (dFld (dVar 0) .each)) (dAsg (dOp uAdd (dVar 1) (dLst (Zaa (dC (.str [101, 97, 99, 104])) dNil))) (hName 1)) Zam) (dRet (dBm tyS Zgy (dC (.str [32])) (Zaa (dVar 1) dNil)))))
def Za6 (E : DX) : DS :=
 Zeh (Z2r (subC .LastDrop) 2 2 Zbc E (Zaa (dVar 1) (Zaa (dVar 2) dNil)) (Zaa (dVar 3) (Zaa (dVar 4) dNil)))
def Za5 : DS :=
 dRet (dOp uAdd (dSup (subC .LastDrop) Za0 noX dNil) (dC (.str [32, 98, 117, 116, 32, 108, 97, 115, 116])))
theorem Z48 {ok : Cn → Bool} {n m : Nat} {g : DSp} {Ed : DX} {a ak : DA} {ds : DSt} {M : Mem} {Q : DQ} {x : D} {k : Cn} {ys : List D} (h0 : ds[0]? = some (some x)) (h1 : obOf M x = some (k, ys)) (h2 : ok k = true) (h : a ds M fun xs M1 => ak ds M1 fun zs M2 => xs.length = n ∧ zs.length = m ∧ g ((x :: xs) ++ zs) M2 Q Ed) : Z2r ok n m g Ed a ak ds M Q := ⟨x, k, ys, h0, h1, h2, h⟩
theorem Zl3 (ds : List D) (M : Mem) (Q : DQ) (E : DX) (h : Zbc ds M Q E) : Zcq E { nx := fun _ M' => Q (.v .non) M', rt := Q } (Zae 5 ds) M := by
 obtain ⟨n, k, ls, vw, z, a, e, rfl, hM, hk, hz, kX, kE, kQ⟩ := h
 show Zcq E _ [some (.cell n), some (.v (alph ls vw)), some (vS z), some (vI a), some (vB e)] M
 unfold Zcq
 have hn := (Qa.mp hM).1
 have gs : ∀ x : Cell, (M.set n (some x))[n]? = some (some x) := fun x => Qt hn
 walk_at "ds"
 refine Zu5 rfl (Zin hM) (by rcases hk with rfl | rfl <;> decide) ?_
 walk_at "ds"
 refine ⟨n, k, _, rfl, hM, by rcases hk with rfl | rfl <;> decide, by rcases hk with rfl | rfl <;> decide, ?_⟩
 walk_at "ds"
 refine k_put (gs _) (by rcases hk with rfl | rfl <;> with_unfolding_all exact rfl) (by rcases hk with rfl | rfl <;> decide) ?_
 rw [Qy]
 walk_at "ds"
 refine k_m Zay rfl ?_
 walk_at "ds"
 refine ⟨ls, vw, z, rfl, hz, fun o => ?_, fun no => kX no _⟩
 walk_at "ds"
 refine k_put (gs _) (by rcases hk with rfl | rfl <;> with_unfolding_all exact rfl) (by rcases hk with rfl | rfl <;> decide) ?_
 rw [Qy]
 walk_at "ds"
 by_cases h1 : 0 ≤ a
 case neg =>
  rw [decide_eq_false h1]
  walk_at "ds"
  exact ⟨_, rfl, rfl, kE o (fun w => h1 w.1) _⟩
 rw [decide_eq_true h1]
 walk_at "ds"
 by_cases h3 : a ≤ 3
 case neg =>
  rw [decide_eq_false h3]
  walk_at "ds"
  exact ⟨_, rfl, rfl, kE o (fun w => h3 w.2) _⟩
 rw [decide_eq_true h3]
 walk_at "ds"
 obtain ⟨b, rfl⟩ := Int.eq_ofNat_of_zero_le h1
 refine k_put (gs _) (by rcases hk with rfl | rfl <;> with_unfolding_all exact rfl) (by rcases hk with rfl | rfl <;> decide) ?_
 rw [Qy]
 walk_at "ds"
 refine k_put (gs _) (by rcases hk with rfl | rfl <;> with_unfolding_all exact rfl) (by rcases hk with rfl | rfl <;> decide) ?_
 rw [Qy]
 exact kQ b rfl o (by omega) false
theorem Z6i (al : PV) (nm ch : List Nat) (a : Nat) (e l : Bool) : ∃ k, (k = .Drop ∨ k = .LastDrop) ∧ Stg.pv al (.drop nm ch a e l) = .obj k [al, .str nm, .str ch, .int a, .bl e] := by
 cases l
 ·exact ⟨.Drop, Or.inl rfl, rfl⟩
 ·exact ⟨.LastDrop, Or.inr rfl, rfl⟩
theorem Zl2 (ds : List D) (M : Mem) (Q : DQ) (E : DX) (h : Za0 ds M Q E) : Zcp { nx := fun _ M' => Zad M Q (.v .non) M', rt := Zad M Q } (Zae 2 ds) M := by
 obtain ⟨al, nm, ch, a, e, l, rfl, hl, ha, q⟩ := h
 obtain ⟨k, hk, ek⟩ := Z6i al nm ch a e l
 rw [ek]
 show Zcp _ [some (.v (.obj k [al, .str nm, .str ch, .int a, .bl e])), none] M
 unfold Zcp
 have fl : ∀ {n : Nat}, n ≤ 200 → n ≤ sizeLine := fun h => Hb h (by decide)
 walk_at "ds"
 refine Za1 rfl (by rcases hk with rfl | rfl <;> with_unfolding_all exact rfl) ?_
 have fin : ∀ zs : List (List Nat), (zs.map List.length).sum + zs.length ≤ 1000 → glue [32] zs = Stg.text (.drop nm ch a e false) → dRet (dBm tyS Zgy (dC (.str [32])) (Zaa (dVar 1) dNil)) { nx := fun _ M' => Zad M Q (.v .non) M', rt := Zad M Q } [some (.v (.obj k [al, .str nm, .str ch, .int a, .bl e])), some (vL (zs.map PV.str))] M := fun zs hz he => by
  walk_at "ds"
  refine Zpx (zs := zs) rfl (by show _ + _ * 1 ≤ _; omega) ?_
  rw [he]
  exact Zak q
 have two : ∀ zs : List (List Nat), (zs.map List.length).sum + zs.length ≤ 900 → zs.length ≤ 10 → glue [32] (if e = true then zs ++ [[101, 97, 99, 104]] else zs) = Stg.text (.drop nm ch a e false) → dCut (dIfS (dTru (dFld (dVar 0) .each)) (dAsg (dOp uAdd (dVar 1) (dLst (Zaa (dC (.str [101, 97, 99, 104])) dNil))) (hName 1)) Zam) (dRet (dBm tyS Zgy (dC (.str [32])) (Zaa (dVar 1) dNil))) { nx := fun _ M' => Zad M Q (.v .non) M', rt := Zad M Q } [some (.v (.obj k [al, .str nm, .str ch, .int a, .bl e])), some (vL (zs.map PV.str))] M := fun zs hz hn he => by
  refine Zpw ?_
  walk_at "ds"
  refine Za1 rfl (by rcases hk with rfl | rfl <;> with_unfolding_all exact rfl) ⟨e, rfl, (fun _ w => by cases w), ?_⟩
  cases e with
  | false => exact fin zs (by omega) he
  | true =>
   walk_at "ds"
   refine Zks (by rw [Qb]; show zs.length + 1 ≤ sizeLine; rw [sizeLine_eq]; omega) ?_
   have := fin (zs ++ [[101, 97, 99, 104]]) (by simp only [Q1, List.sum_append, Qc, Ha, Lq, G6, List.sum_nil, Qe, Qm]; omega) he
   rw [Q1] at this
   exact this
 walk_at "ds"
 refine Zpw ?_
 walk_at "ds"
 refine Za1 rfl (by rcases hk with rfl | rfl <;> with_unfolding_all exact rfl) ?_
 walk_at "ds"
 refine ite2 (fun h => ?_) (fun h => ?_)
 ·have h1 : 0 < a := by have := of_decide_eq_true h; omega
  walk_at "ds"
  refine Za1 rfl (by rcases hk with rfl | rfl <;> with_unfolding_all exact rfl) ?_
  walk_at "ds"
  refine ⟨a, rfl, by rcases (show a = 0 ∨ a = 1 ∨ a = 2 ∨ a = 3 by omega) with rfl | rfl | rfl | rfl <;> decide, ?_⟩
  have hf : figs a = dig a := by rcases (show a = 0 ∨ a = 1 ∨ a = 2 ∨ a = 3 by omega) with rfl | rfl | rfl | rfl <;> decide +kernel
  rw [hf]
  walk_at "ds"
  refine Zks (by show 2 + 2 ≤ sizeLine; decide) ?_
  refine two [[100, 114, 111, 112], nm, [97, 102, 116, 101, 114], dig a] (by simp [dig]; omega) (by simp) ?_
  cases e <;> simp [Stg.text, glue, dig, h1]
 ·have h1 : ¬ 0 < a := fun w => h (decide_eq_true (by omega))
  refine two [[100, 114, 111, 112], nm] (by simp; omega) (by simp) ?_
  have h2 : a = 0 := by omega
  cases e <;> simp [Stg.text, glue, h2]
theorem Zf8 (ds : List D) (M : Mem) (Q : DQ) (E : DX) (h : Zav ds M Q E) : Za6 E { nx := fun _ M' => Q (.v .non) M', rt := Q } (Zae 5 ds) M := by
 obtain ⟨⟨n', r, e0, hL⟩, h⟩ := h
 have h0 := h
 obtain ⟨n, k, ls, vw, z, a, e, rfl, hM, hk, hz, kX, kE, kQ⟩ := h
 cases e0
 rw [hL] at hM
 cases hM
 show Za6 E _ [some (.cell n'), some (.v (alph ls vw)), some (vS z), some (vI a), some (vB e)] M
 unfold Za6
 walk_at "ds"
 refine Z48 rfl (Zin hL) rfl ?_
 walk_at "ds"
 exact ⟨rfl, rfl, h0⟩
theorem Zf7 (ds : List D) (M : Mem) (Q : DQ) (E : DX) (h : Zal ds M Q E) : Za5 { nx := fun _ M' => Zad M Q (.v .non) M', rt := Zad M Q } (Zae 1 ds) M := by
 obtain ⟨al, st, rfl, ok, ⟨ls, vw, o⟩, q⟩ := h
 cases st with
 | drop nm ch a e l =>
  cases (show l = true from ok)
  show Za5 _ [some (.v (.obj .LastDrop [al, .str nm, .str ch, .int a, .bl e]))] M
  unfold Za5
  walk_at "ds"
  refine Zu5 rfl (show obOf M _ = some (.LastDrop, [.v al, vS nm, vS ch, vI a, vB e]) from rfl) rfl ?_
  refine ⟨al, nm, ch, a, e, true, rfl, o.2.2.1, o.2.2.2, ?_⟩
  have tl : (Stg.text (.drop nm ch a e false)).length ≤ 200 := by
   have := o.2.2.1
   cases e <;> by_cases h : 0 < a <;> simp [Stg.text, dig, h] <;> omega
  walk_at "ds"
  have e2 : Stg.text (.drop nm ch a e true) = Stg.text (.drop nm ch a e false) ++ [32, 98, 117, 116, 32, 108, 97, 115, 116] := by
   simp [Stg.text]
  rw [e2] at q
  exact Zak q
 | _ => exact ok.elim
abbrev Ze4 : List Nat := [116, 101, 120, 116]
abbrev Zc5 : List Nat := [101, 97, 99, 104]
abbrev Zds : List Nat := [98, 117, 116]
abbrev Zby : List Nat := [108, 97, 115, 116]
abbrev Zm7 : List Nat := [100, 114, 111, 112]
abbrev Zhw : List Nat := [119, 114, 105, 116, 101]
abbrev Zs0 : List Nat := [102, 111, 114]
abbrev Zm6 : List Nat := [111, 110, 99, 101]
abbrev Zs1 : List Nat := [97, 100, 100]
instance (ls z : List Nat) : Decidable (okS ls z) := by unfold okS; infer_instance
instance (ls z : List Nat) : Decidable (okN ls z) := by unfold okN; infer_instance
instance (ls z : List Nat) : Decidable (okX ls z) := by unfold okX; infer_instance
def numT (n : List Nat) : Option Nat := if n = [49] then some 1 else if n = [50] then some 2 else if n = [51] then some 3 else none
theorem Zux (n : List Nat) : lkT NUMS n = (numT n).map fun k => (k : Int) := by
 unfold numT
 by_cases h1 : n = [49]
 ·subst h1; rfl
 ·by_cases h2 : n = [50]
  ·subst h2; rfl
  ·by_cases h3 : n = [51]
   ·subst h3; rfl
   ·rw [if_neg h1, if_neg h2, if_neg h3]
    unfold lkT
    rw [G0 (by simpa using fun e => h1 e.symm), G0 (by simpa using fun e => h2 e.symm), G0 (by simpa using fun e => h3 e.symm)]
    rfl
theorem Zuj {n : List Nat} {k : Nat} (h : numT n = some k) : k ≤ 3 ∧ 1 ≤ k ∧ n = dig k := by
 unfold numT at h
 split at h
 ·cases h; rename_i e; exact ⟨by decide, by decide, e⟩
 ·split at h
  ·cases h; rename_i e; exact ⟨by decide, by decide, e⟩
  ·split at h
   ·cases h; rename_i e; exact ⟨by decide, by decide, e⟩
   ·cases h
def Zax : List (List Nat) → Option (List Nat) × List (List Nat)
 | w :: n :: r => if w = txAf then (some n, r) else (none, w :: n :: r)
 | ps => (none, ps)
def Zbv : List (List Nat) → Bool × List (List Nat)
 | w :: r => if w = Zc5 then (true, r) else (false, w :: r)
 | [] => (false, [])
def Znz (ls vw nm : List Nat) (e l : Bool) : Option (List Nat) → List Nat ⊕ Stg
 | none => .inr (.drop nm (mem ls vw nm) 0 e l)
 | some n => match numT n with
  | some k => .inr (.drop nm (mem ls vw nm) k e l)
  | none => .inl txAf
def Zgs (ls vw nm : List Nat) (ps : List (List Nat)) : List Nat ⊕ Stg :=
 if (Zbv (Zax ps).2).2 = [] ∨ (Zbv (Zax ps).2).2 = [Zds, Zby] then
  if okN ls nm then Znz ls vw nm (Zbv (Zax ps).2).1 (decide ((Zbv (Zax ps).2).2 ≠ [])) (Zax ps).1 else .inl txS
 else .inl Ze4
def Zig (ls vw x nm : List Nat) : List Nat ⊕ Stg := if okX ls x then if okN ls nm then .inr (.write (x.headD 0) nm (mem ls vw nm)) else .inl txS else .inl txSg
def Zny (ls vw nm : List Nat) : List Nat ⊕ Stg := if okN ls nm then .inr (.once nm (mem ls vw nm)) else .inl txS
def Zuc (ls x : List Nat) : List Nat ⊕ Stg := if okX ls x then .inr (.add (x.headD 0)) else .inl txSg
def rdWr (ls vw x : List Nat) : List (List Nat) → List Nat ⊕ Stg
 | [f, n] => if f = Zs0 then Zig ls vw x n else .inl Ze4
 | _ => .inl Ze4
def rdOn (ls vw nm : List Nat) : List (List Nat) → List Nat ⊕ Stg
 | [] => Zny ls vw nm
 | _ => .inl Ze4
def rdAd (ls x : List Nat) : List (List Nat) → List Nat ⊕ Stg
 | [] => Zuc ls x
 | _ => .inl Ze4
def rdW (ls vw : List Nat) : List (List Nat) → List Nat ⊕ Stg
 | w :: nm :: ps => if w = Zm7 then Zgs ls vw nm ps else if w = Zhw then rdWr ls vw nm ps else if w = Zm6 then rdOn ls vw nm ps else if w = Zs1 then rdAd ls nm ps else .inl Ze4
 | _ => .inl Ze4
def Zxj (al : PV) (M : Mem) (Q : DQ) (E : DX) : List Nat ⊕ Stg → Prop
 | .inl w => E ⟨.BadStage, [.str w]⟩ M
 | .inr st => Q (.v (st.pv al)) M
def Zdn : DSp := fun ds M Q E => ∃ ls vw nm ps, ds = [.v (alph ls vw), vS nm, vL (ps.map PV.str)] ∧ nm.length ≤ 60 ∧ asc3 ps ∧ Zxj (alph ls vw) M Q E (Zgs ls vw nm ps)
def Zbn : DSp := fun ds M Q E => ∃ ls vw z, ds = [.v (alph ls vw), vS z] ∧ z.length ≤ 1000 ∧ (∀ p ∈ wds z, p.length ≤ 60) ∧ (∀ c ∈ z, c < 1114112) ∧ Zxj (alph ls vw) M Q E (rdW ls vw (wds z))
theorem Zir (ds : List D) (M : Mem) (Q : DQ) (E : DX) (h : Zdn ds M Q E) : ds.length = 3 := by obtain ⟨_, _, _, _, rfl, _⟩ := h; rfl
theorem Zg9 (ds : List D) (M : Mem) (Q : DQ) (E : DX) (h : Zbn ds M Q E) : ds.length = 2 := by obtain ⟨_, _, _, rfl, _⟩ := h; rfl
theorem Zot {α : Type} (z : List α) (k : Nat) : cut z none (some (k : Int)) = z.take k := by
 unfold cut
 rw [HT.sIx_nat]
 show (z.drop (HT.sIx z.length 0 none)).take (min k z.length - HT.sIx z.length 0 none) = _
 rw [show HT.sIx z.length 0 none = 0 from rfl, L9, Nat.sub_zero]
 by_cases h : k ≤ z.length
 ·rw [Gn h]
 ·rw [Nat.min_eq_right (by omega), Q8, L3 (by omega)]
theorem Zv1 {α : Type} (z : List α) (k : Nat) : cut z (some (k : Int)) none = z.drop k := by
 unfold cut
 rw [HT.sIx_nat]
 show (z.drop (min k z.length)).take (z.length - min k z.length) = _
 by_cases h : k ≤ z.length
 ·rw [Gn h, L3 (by simp)]
 ·rw [Nat.min_eq_right (by omega), Ht, List.take_nil, Ge (by omega)]
theorem Zla (b : List Nat) : ∀ (z : List Nat) (k : Nat) (acc : List Nat), ∀ p ∈ TL.spl b k acc z, ∀ c ∈ p, c ∈ acc ∨ c ∈ z
 | [], k, acc, p, hp, c, hc => by
  rw [TL.spl_nil] at hp
  rw [Qq.mp hp] at hc
  exact Or.inl hc
 | d :: z, 0, acc, p, hp, c, hc => by
  have hp' : p ∈ (if TL.pre b (d :: z) = true then acc :: TL.spl b (b.length - 1) [] z else TL.spl b 0 (acc ++ [d]) z) := hp
  split at hp'
  ·rcases Qg.mp hp' with rfl | hp'
   ·exact Or.inl hc
   ·rcases Zla b z _ [] p hp' c hc with h | h
    ·cases h
    ·exact Or.inr (Qh _ h)
  ·rcases Zla b z 0 _ p hp' c hc with h | h
   ·rcases Q2.mp h with h | h
    ·exact Or.inl h
    ·exact Or.inr (by rw [Qq.mp h]; exact Qp)
   ·exact Or.inr (Qh _ h)
 | d :: z, k + 1, acc, p, hp, c, hc => by
  rcases Zla b z k acc p hp c hc with h | h
  ·exact Or.inl h
  ·exact Or.inr (Qh _ h)
theorem Z22 {b z : List Nat} (h : ∀ c ∈ z, c < 1114112) : asc3 (TL.spl b 0 [] z) := fun p hp c hc => by
 rcases Zla b z 0 [] p hp c hc with h' | h'
 ·cases h'
 ·exact h c h'
def Zel : Kd → Option Bool
 | .c .Alphabet => some true
 | _ => none
def Zbt : DS :=
 dRet (Zos (dCB (uIsi Zel (.cls .Alphabet)) (Zaa (dVar 1) (Zaa (dC (.cls .Alphabet)) dNil))) (Zos (dOp uEq (dFld (dVar 0) .letters) (dFld (dVar 1) .letters)) (dOp uEq (dFld (dVar 0) .vowels) (dFld (dVar 1) .vowels))))
def Zch (E : DX) : DS :=
 dSeq (dAsg (dC .non) (hName 3)) (dCut (dIfS (dAnd (Zah (dOp uEq (dSl uSl (dVar 2) Za2 (Zcw (dC (.int 1)))) (dLst (Zaa (dC (.str [97, 102, 116, 101, 114])) dNil)))) (Zah (dOp uGt (dCB uLen (Zaa (dVar 2) dNil)) (dC (.int 1))))) (dSeq (dAsg (dOp uIx (dVar 2) (dC (.int 1))) (hName 3)) (dAsg (dSl uSl (dVar 2) (Zcw (dC (.int 2))) Za2) (hName 2))) Zam) (dSeq (dAsg (dOp uEq (dSl uSl (dVar 2) Za2 (Zcw (dC (.int 1)))) (dLst (Zaa (dC (.str [101, 97, 99, 104])) dNil))) (hName 4)) (dCut (dIfS (dTru (dVar 4)) (dAsg (dSl uSl (dVar 2) (Zcw (dC (.int 1))) Za2) (hName 2)) Zam) (dSeq (dIfS (Zah (dOp (Z0o true) (dVar 2) (dTup (Zaa (dLst dNil) (Zaa (dLst (Zaa (dC (.str [98, 117, 116])) (Zaa (dC (.str [108, 97, 115, 116])) dNil))) dNil))))) (Zct .BadStage E (Zaa (dC (.str [116, 101, 120, 116])) dNil)) Zam) (dSeq (Zeh (Zd5 Zau [] E (dVar 0) (Zaa (dVar 1) dNil))) (dSeq (dIfS (dAnd (Zah (dOp Zkf (dVar 3) (dC .non))) (Zah (dUn (Zo4 NUMS) (dVar 3)))) (Zct .BadStage E (Zaa (dC (.str [97, 102, 116, 101, 114])) dNil)) Zam) (dSeq (dAsg (dIf (Zah (dOp uIs (dVar 3) (dC .non))) (dC (.int 0)) (dUn (Z0p NUMS) (dVar 3))) (hName 5)) (dSeq (dIfS (dTru (dVar 2)) (dRet (Zky .LastDrop 2 2 Zav E (Zaa (dVar 0) (Zaa (dVar 1) dNil)) (Zaa (dVar 5) (Zaa (dVar 4) dNil)))) Zam) (dRet (Zky .Drop 2 2 Zbc E (Zaa (dVar 0) (Zaa (dVar 1) dNil)) (Zaa (dVar 5) (Zaa (dVar 4) dNil))))))))))))
def Zbz (E : DX) : DS :=
 dSeq (dAsg (dBm tyS Zm5 (dVar 1) (Zaa (dC (.str [32])) dNil)) (hName 2)) (dSeq (dIfS (dAnd (Zah (dOp uEq (dOp uIx (dVar 2) (dC (.int 0))) (dC (.str [100, 114, 111, 112])))) (Zah (dOp uGt (dCB uLen (Zaa (dVar 2) dNil)) (dC (.int 1))))) (dRet (Zd6 Zdn E (Zaa (dVar 0) (Zaa (dOp uIx (dVar 2) (dC (.int 1))) (Zaa (dSl uSl (dVar 2) (Zcw (dC (.int 2))) Za2) dNil))))) Zam) (dSeq (dIfS (dAnd (Zah (dOp uEq (dOp uIx (dVar 2) (dC (.int 0))) (dC (.str [119, 114, 105, 116, 101])))) (dAnd (Zah (dOp uEq (dCB uLen (Zaa (dVar 2) dNil)) (dC (.int 4)))) (Zah (dOp uEq (dOp uIx (dVar 2) (dC (.int 2))) (dC (.str [102, 111, 114])))))) (dRet (Zjc .Write Zb3 [] E (Zaa (dVar 0) (Zaa (dOp uIx (dVar 2) (dC (.int 1))) (Zaa (dOp uIx (dVar 2) (dC (.int 3))) dNil))))) Zam) (dSeq (dIfS (dAnd (Zah (dOp uEq (dOp uIx (dVar 2) (dC (.int 0))) (dC (.str [111, 110, 99, 101])))) (Zah (dOp uEq (dCB uLen (Zaa (dVar 2) dNil)) (dC (.int 2))))) (dRet (Zjc .Once Zcs [] E (Zaa (dVar 0) (Zaa (dOp uIx (dVar 2) (dC (.int 1))) dNil)))) Zam) (dSeq (dIfS (dAnd (Zah (dOp uEq (dOp uIx (dVar 2) (dC (.int 0))) (dC (.str [97, 100, 100])))) (Zah (dOp uEq (dCB uLen (Zaa (dVar 2) dNil)) (dC (.int 2))))) (dRet (Zjc .Add Zdc [] E (Zaa (dVar 0) (Zaa (dOp uIx (dVar 2) (dC (.int 1))) dNil)))) Zam) (Zct .BadStage E (Zaa (dC (.str [116, 101, 120, 116])) dNil))))))
theorem Zq9 {M : Mem} {X : DX} {e : DErr} {o o' : Option Cell} (h : X e M) : Zbf M X e ((M ++ [o]).set M.length o') := by
 refine ⟨?_, ?_⟩
 ·rw [Zbi]
  exact Exit.app M _
 ·rw [Zbi, Gm rfl]
  exact h
theorem Z8o {M : Mem} {Q : DQ} {z : List Nat} {zs : List (List Nat)} {xs : List PV} (e : xs = zs.map PV.str) (h : Q (vB (decide (z ∈ zs))) M) : uIn (vS z) (vL xs) M Q := by
 subst e
 refine Or.inr ⟨.str z, _, _, rfl, rfl, Zbg _, rfl, ?_, ?_⟩
 ·rw [List.all_map]
  exact Q6.mpr fun _ _ => rfl
 ·rw [Gv]
  have : ((zs.map PV.str).any fun y => y.eqF (.str z)) = decide (z ∈ zs) := by
   rw [List.any_map, Hm, Lr, decide_eq_true_iff]
   exact ⟨fun ⟨y, hy, e⟩ => by
    have e' : y = z := of_decide_eq_true e
    exact e' ▸ hy, fun h => ⟨z, h, decide_eq_true rfl⟩⟩
  rw [this]
  exact h
theorem Zz9 {M : Mem} {Q : DQ} {X : DX} {ls vw nm : List Nat} {a : Int} {b : Nat} {e : Bool} (ea : a = b) (hb : b ≤ 3) (hn : okN ls nm) (hl : nm.length ≤ 60) (h : Q (.v (Stg.pv (alph ls vw) (.drop nm (mem ls vw nm) b e false))) M) : Zbc [.cell M.length, .v (alph ls vw), vS nm, vI a, vB e] (M ++ [some (.obj .Drop [])]) (mkQ .Drop M Q) X :=
 ⟨M.length, .Drop, ls, vw, nm, a, e, rfl, Qj .., Or.inl rfl, hl, fun n => absurd hn n, fun _ n => absurd ⟨by omega, by omega⟩ n, fun b' e' _ _ l => by
  obtain rfl : b' = b := by omega
  exact Zd0 h⟩
theorem Zwb {M : Mem} {Q : DQ} {X : DX} {ls vw nm : List Nat} {a : Int} {b : Nat} {e : Bool} (ea : a = b) (hb : b ≤ 3) (hn : okN ls nm) (hl : nm.length ≤ 60) (h : Q (.v (Stg.pv (alph ls vw) (.drop nm (mem ls vw nm) b e true))) M) : Zav [.cell M.length, .v (alph ls vw), vS nm, vI a, vB e] (M ++ [some (.obj .LastDrop [])]) (mkQ .LastDrop M Q) X :=
 ⟨⟨_, _, rfl, Qj ..⟩, M.length, .LastDrop, ls, vw, nm, a, e, rfl, Qj .., Or.inr rfl, hl, fun n => absurd hn n, fun _ n => absurd ⟨by omega, by omega⟩ n, fun b' e' _ _ l => by
  obtain rfl : b' = b := by omega
  exact Zd0 h⟩
local macro_rules | `(tactic| walk_at "fz") => `(tactic| repeat with_reducible refine Wg.go ?_)
local macro_rules | `(tactic| walk_at "dw") => `(tactic| skip)
local macro_rules | `(tactic| walk_at "dx") => `(tactic| skip)
local macro_rules | `(tactic| walk_at "ds") => `(tactic| (walk_at "fz"; walk_at "dw"))
local macro_rules | `(tactic| walk_at "dz") => `(tactic| (walk_at "ds"; walk_at "dx"))
local macro_rules | `(tactic| walk_at "dx") => `(tactic| (((first | with_reducible refine z_eq ?_ | with_reducible refine Z0e ?_ | with_reducible refine z_F (c := isNon (.v _)) (by with_unfolding_all exact rfl) ?_ | with_reducible refine z_nF (c := isNon (.v _)) (by with_unfolding_all exact rfl) ?_ | with_reducible refine z_T (c := isNon (.v _)) (by with_unfolding_all exact rfl) ?_ | with_reducible refine z_nT (c := isNon (.v _)) (by with_unfolding_all exact rfl) ?_ | with_reducible refine z_F (by decide) ?_ | with_reducible refine z_T (by decide) ?_ | with_reducible refine z_nF (by decide) ?_ | with_reducible refine z_nT (by decide) ?_ | fail); walk_at "ds"); walk_at "dx"))
local macro_rules | `(tactic| walk_at "dw") => `(tactic| (((first | with_reducible refine Zsh (by first | (dsimp only [Hk, Hq, Hf, Hg]; done) | (with_unfolding_all exact rfl)) ?_ | with_reducible refine Zvf (by with_unfolding_all exact rfl) ?_ | with_reducible refine k_pu (by with_unfolding_all exact rfl) (by (rw [sizeLine_eq]; (try simp only [Qc, Qe, Qm, Qb, Qo]); omega)) ?_ | with_reducible refine iteT ?_ | with_reducible refine k_eq (by with_unfolding_all exact rfl) ?_ | with_reducible refine iteF ?_ | with_reducible refine k_sz (by (rw [sizeLine_eq]; (try simp only [Qc, Qe, Qm, Qb, Qo]); omega)) ?_ | with_reducible refine k_ne (by with_unfolding_all exact rfl) ?_ | with_reducible refine Zrb (by (rw [sizeLine_eq]; (try simp only [Qc, Qe, Qm, Qb, Qo]); omega)) ?_ | with_reducible refine Zod (by (rw [sizeLine_eq]; (try simp only [Qc, Qe, Qm, Qb, Qo]); omega)) ?_ | with_reducible refine Zre _ ?_ | with_reducible refine Zrd (by rfl) ?_ | with_reducible refine Ziz (by with_unfolding_all exact rfl) ?_ | with_reducible refine Zxt (by (rw [sizeLine_eq]; (try simp only [Qc, Qe, Qm, Qb, Qo]); omega)) ?_ | fail); walk_at "fz"); walk_at "dw"))
local macro_rules | `(tactic| walk_at "dx") => `(tactic| (((first | with_reducible refine Zve ?_ | with_reducible refine Zvd ?_ | with_reducible refine Zvc ?_ | with_reducible refine Zvb ?_ | with_reducible refine Z0g (by first | omega | (simp; done) | (simp; omega)) ?_ | with_reducible refine Z0f (by first | omega | (simp; done) | (simp; omega)) ?_ | with_reducible refine Zst (by first | omega | (simp; done) | (simp; omega)) ?_ | with_reducible refine Zss (by first | omega | (simp; done) | (simp; omega)) ?_ | with_reducible refine Z0i (by first | omega | (simp; done) | (simp; omega)) ?_ | with_reducible refine Z0h (by first | omega | (simp; done) | (simp; omega)) ?_ | fail); walk_at "ds"); walk_at "dx"))
theorem Ziy {M : Mem} {Q : DQ} {k : Cn} {n m : Nat} {g : DSp} {Ed : DX} {a ak : DA} {ds : DSt} (h : a ds M fun xs M0 => ak ds M0 fun zs M1 => xs.length = n ∧ zs.length = m ∧ g (.cell M1.length :: (xs ++ zs)) (M1 ++ [some (.obj k [])]) (mkQ k M1 Q) (Zbf M1 Ed)) : Zky k n m g Ed a ak ds M Q := h
theorem Zif (ds : List D) (M : Mem) (Q : DQ) (E : DX) (h : Zar ds M Q E) : Zbt { nx := fun _ M' => Zad M Q (.v .non) M', rt := Zad M Q } (Zae 2 ds) M := by
 obtain ⟨ls, vw, ls', vw', rfl, q⟩ := h
 show Zbt _ [some (.v (alph ls vw)), some (.v (alph ls' vw'))] M
 unfold Zbt
 walk_at "dz"
 refine ⟨_, .c .Alphabet, true, rfl, rfl, rfl, ?_⟩
 walk_at "dz"
 refine Za1 Zay rfl ?_
 walk_at "dz"
 refine Za1 Zay rfl ?_
 walk_at "dz"
 by_cases h1 : ls = ls'
 ·rw [decide_eq_true h1] at q ⊢
  walk_at "dz"
  refine Za1 Zay rfl ?_
  walk_at "dz"
  refine Za1 Zay rfl ?_
  walk_at "dz"
  exact Zak (by simpa using q)
 ·rw [decide_eq_false h1] at q ⊢
  walk_at "dz"
  exact Zak (by simpa using q)
def Z4t : Option (List Nat) → PV
 | none => .non
 | some n => .str n
theorem Zhs {xs ys : List (List Nat)} (h : asc3 xs) (hs : ∀ y ∈ ys, y ∈ xs) : asc3 ys := fun z hz => h z (hs z hz)
theorem Zht {ys : List (List Nat)} (h : ys.all (fun z => z.all (· < 1114112)) = true) : asc3 ys := fun z hz c hc => of_decide_eq_true (Q6.mp (Q6.mp h z hz) c hc)
theorem Z6g (p : List (List Nat)) : decide (p.take 1 = [Zc5]) = (Zbv p).1 := by
 cases p with
 | nil => rfl
 | cons w r =>
  show decide ([w] = [Zc5]) = (if w = Zc5 then (true, r) else (false, w :: r)).1
  by_cases h : w = Zc5
  ·rw [if_pos h, h]; rfl
  ·rw [if_neg h]
   exact decide_eq_false fun e => h (by simpa using e)
theorem Zwl (ps : List (List Nat)) : ∀ y ∈ (Zax ps).2, y ∈ ps := by
 unfold Zax
 split
 ·split
  ·exact fun y hy => Qh _ (Qh _ hy)
  ·exact fun y hy => hy
 ·exact fun y hy => hy
theorem Zyd (ps : List (List Nat)) : ∀ y ∈ (Zbv ps).2, y ∈ ps := by
 unfold Zbv
 split
 ·split
  ·exact fun y hy => Qh _ hy
  ·exact fun y hy => hy
 ·exact fun y hy => hy
theorem Zlu (ds : List D) (M : Mem) (Q : DQ) (E : DX) (h : Zdn ds M Q E) : Zch (Zbf M E) { nx := fun _ M' => Zad M Q (.v .non) M', rt := Zad M Q } (Zae 6 ds) M := by
 obtain ⟨ls, vw, nm, ps, rfl, hn, ha, q⟩ := h
 show Zch (Zbf M E) _ [some (.v (alph ls vw)), some (vS nm), some (vL (ps.map PV.str)), none, none, none] M
 unfold Zch
 have raise : ∀ w, Zgs ls vw nm ps = .inl w → ∃ qs, Zat [vS w] = some qs ∧ qs.length = Cn.BadStage.flds.length ∧ Zbf M E ⟨.BadStage, qs⟩ M := fun w e => by
  rw [e] at q
  exact ⟨[.str w], rfl, rfl, Zc1 q⟩
 walk_at "dz"
 refine Z5u (fun ds' M' => M' = M ∧ ds' = [some (.v (alph ls vw)), some (vS nm), some (vL ((Zax ps).2.map PV.str)), some (.v (Z4t (Zax ps).1)), none, none]) ?_ ?_
 ·walk_at "dz"
  rw [Zgk, show (some 1 : Option Int) = some ((1 : Nat) : Int) from rfl, Zot]
  refine Zvg (as := ps.take 1) (bs := [txAf]) rfl rfl (Zhs ha fun y hy => Q5 hy) (Zht (by decide)) ?_
  clear q raise
  rcases ps with _ | ⟨w, _ | ⟨n, r⟩⟩
  ·walk_at "dz"
   exact ⟨rfl, rfl⟩
  ·walk_at "dz"
   refine ite2 (fun h => ?_) (fun h => ?_)
   ·walk_at "dz"
    exact ⟨rfl, rfl⟩
   ·walk_at "dz"
    exact ⟨rfl, rfl⟩
  ·walk_at "dz"
   refine ite2 (fun h => ?_) (fun h => ?_)
   ·have hw : w = txAf := by simpa using of_decide_eq_true h
    walk_at "dz"
    rw [Zgk, show (some 2 : Option Int) = some ((2 : Nat) : Int) from rfl, Zv1]
    refine ⟨rfl, ?_⟩
    simp only [Zax, if_pos hw]
    rfl
   ·have hw : ¬ w = txAf := fun e => h (by rw [e]; rfl)
    walk_at "dz"
    refine ⟨rfl, ?_⟩
    simp only [Zax, if_neg hw]
    rfl
 rintro _ M1 ⟨rfl, rfl⟩
 have ha2 : asc3 (Zax ps).2 := Zhs ha (Zwl ps)
 revert raise q
 rw [show Zgs ls vw nm ps = (if (Zbv (Zax ps).2).2 = [] ∨ (Zbv (Zax ps).2).2 = [Zds, Zby] then
  if okN ls nm then Znz ls vw nm (Zbv (Zax ps).2).1 (decide ((Zbv (Zax ps).2).2 ≠ [])) (Zax ps).1 else .inl txS
  else .inl Ze4) from rfl]
 revert ha2
 generalize (Zax ps).2 = p2
 generalize (Zax ps).1 = num
 intro ha2 q raise
 walk_at "dz"
 rw [Zgk, show (some 1 : Option Int) = some ((1 : Nat) : Int) from rfl, Zot]
 refine Zvg (as := p2.take 1) (bs := [Zc5]) rfl rfl (Zhs ha2 fun y hy => Q5 hy) (Zht (by decide)) ?_
 rw [Z6g]
 walk_at "dz"
 refine Z5u (fun ds' M'' => M'' = M1 ∧ ds' = [some (.v (alph ls vw)), some (vS nm), some (vL ((Zbv p2).2.map PV.str)), some (.v (Z4t num)), some (vB (Zbv p2).1), none]) ?_ ?_
 ·clear q raise
  walk_at "dz"
  rcases p2 with _ | ⟨w, r⟩
  ·walk_at "dz"
   exact ⟨rfl, rfl⟩
  ·by_cases hw : w = Zc5
   ·have e : Zbv (w :: r) = (true, r) := by show (if w = Zc5 then (true, r) else (false, w :: r)) = _; rw [if_pos hw]
    rw [e]
    walk_at "dz"
    rw [Zgk, show (some 1 : Option Int) = some ((1 : Nat) : Int) from rfl, Zv1]
    exact ⟨rfl, rfl⟩
   ·have e : Zbv (w :: r) = (false, w :: r) := by show (if w = Zc5 then (true, r) else (false, w :: r)) = _; rw [if_neg hw]
    rw [e]
    walk_at "dz"
    exact ⟨rfl, rfl⟩
 rintro _ M2 ⟨rfl, rfl⟩
 have ha3 : asc3 (Zbv p2).2 := Zhs ha2 (Zyd p2)
 revert q raise ha3
 generalize (Zbv p2).2 = r
 generalize (Zbv p2).1 = e
 intro q raise ha3
 walk_at "dz"
 have hany : ([PV.lst [], .lst [.str Zds, .str Zby]].any fun z => eqvP z (.lst (r.map PV.str))) = decide (r = [] ∨ r = [Zds, Zby]) := by
  rw [Hm]
  have e1 : eqvP (.lst []) (.lst (r.map PV.str)) = decide ([] = r) := Zhq (xs := []) (Zht (by decide))
  have e2 : eqvP (.lst [.str Zds, .str Zby]) (.lst (r.map PV.str)) = decide ([Zds, Zby] = r) := Zhq (xs := [Zds, Zby]) (Zht (by decide))
  simp only [List.any_cons, List.any_nil, Bool.or_false, e1, e2, Bool.or_eq_true, decide_eq_true_iff]
  constructor
  ·rintro (h | h)
   ·exact Or.inl h.symm
   ·exact Or.inr h.symm
  ·rintro (h | h)
   ·exact Or.inl h.symm
   ·exact Or.inr h.symm
 have hlay : (PV.lst (r.map PV.str)).lay 59 = true := by
  show PV.layL 58 _ = true
  rw [PV.Zmh]
  intro x hx
  obtain ⟨z, hz, rfl⟩ := Qs.mp hx
  show z.all (· < 1114112) = true
  rw [Q6]
  exact fun c hc => decide_eq_true (ha3 z hz c hc)
 refine ⟨.lst (r.map PV.str), _, rfl, Or.inr rfl, hlay, by decide, ?_⟩
 rw [hany, G4]
 walk_at "dz"
 by_cases hr : r = [] ∨ r = [Zds, Zby]
 case neg =>
  rw [decide_eq_false hr]
  rw [if_neg hr] at raise
  walk_at "dz"
  exact raise _ rfl
 rw [decide_eq_true hr]
 rw [if_pos hr] at raise q
 walk_at "dz"
 refine k_m Zay rfl ?_
 walk_at "dz"
 refine ⟨ls, vw, nm, rfl, hn, fun on => ?_, fun no => ?_⟩
 case refine_2 =>
  rw [if_neg no] at q
  exact Zc1 q
 rw [if_pos on] at raise q
 cases num with
 | none =>
  walk_at "dz"
  cases r with
  | nil =>
   walk_at "dz"
   refine Ziy ?_
   walk_at "dz"
   exact ⟨rfl, rfl, Zz9 (b := 0) rfl (by decide) on hn (Zak q)⟩
  | cons w r =>
   refine iteT ?_
   walk_at "dz"
   refine Ziy ?_
   walk_at "dz"
   exact ⟨rfl, rfl, Zwb (b := 0) rfl (by decide) on hn (Zak q)⟩
 | some n =>
  walk_at "dz"
  refine ⟨n, rfl, ?_⟩
  rw [Zux]
  cases hnum : numT n with
  | none =>
   walk_at "dz"
   have e1 : Znz ls vw nm e (decide (r ≠ [])) (some n) = .inl txAf := by simp only [Znz, hnum]
   exact raise _ e1
  | some k =>
   have e1 : Znz ls vw nm e (decide (r ≠ [])) (some n) = .inr (.drop nm (mem ls vw nm) k e (decide (r ≠ []))) := by simp only [Znz, hnum]
   rw [e1] at q
   walk_at "dz"
   refine iteF ?_
   walk_at "dz"
   refine ⟨n, (k : Int), rfl, by rw [Zux, hnum]; rfl, ?_⟩
   walk_at "dz"
   cases r with
   | nil =>
    walk_at "dz"
    refine Ziy ?_
    walk_at "dz"
    exact ⟨rfl, rfl, Zz9 (b := k) rfl (Zuj hnum).1 on hn (Zak q)⟩
   | cons w r =>
    refine iteT ?_
    walk_at "dz"
    refine Ziy ?_
    walk_at "dz"
    exact ⟨rfl, rfl, Zwb (b := k) rfl (Zuj hnum).1 on hn (Zak q)⟩
theorem Zjt (ds : List D) (M : Mem) (Q : DQ) (E : DX) (h : Zbn ds M Q E) : Zbz (Zbf M E) { nx := fun _ M' => Zad M Q (.v .non) M', rt := Zad M Q } (Zae 3 ds) M := by
 obtain ⟨ls, vw, z, rfl, hz, hp, ha, q⟩ := h
 show Zbz (Zbf M E) _ [some (.v (alph ls vw)), some (vS z), none] M
 unfold Zbz
 walk_at "dz"
 refine Zu6 (by simp) (by decide) (by walk_at "sz") ?_
 have has := Z22 (b := [32]) ha
 have hne := Ztg [32] z 0 []
 revert hp q has hne
 rw [show wds z = TL.spl [32] 0 [] z from rfl]
 generalize TL.spl [32] 0 [] z = ws
 intro hp q has hne
 have raise : ∀ w, rdW ls vw ws = .inl w → ∃ qs, Zat [vS w] = some qs ∧ qs.length = Cn.BadStage.flds.length ∧ Zbf M E ⟨.BadStage, qs⟩ M := fun w e => by
  rw [e] at q
  exact ⟨[.str w], rfl, rfl, Zc1 q⟩
 rcases ws with _ | ⟨w, ws⟩
 ·exact absurd rfl hne
 walk_at "dz"
 have no1 : ∀ x : List Nat, w ≠ x → decide (w = x) = false := fun x h => decide_eq_false h
 rcases ws with _ | ⟨nm, ps⟩
 ·by_cases h1 : w = Zm7
  ·subst h1
   walk_at "dz"
   exact raise _ rfl
  refine z_F (no1 _ h1) ?_
  walk_at "dz"
  by_cases h2 : w = Zhw
  ·subst h2
   walk_at "dz"
   exact raise _ rfl
  refine z_F (no1 _ h2) ?_
  walk_at "dz"
  by_cases h3 : w = Zm6
  ·subst h3
   walk_at "dz"
   exact raise _ rfl
  refine z_F (no1 _ h3) ?_
  walk_at "dz"
  by_cases h4 : w = Zs1
  ·subst h4
   walk_at "dz"
   exact raise _ rfl
  refine z_F (no1 _ h4) ?_
  walk_at "dz"
  exact raise _ rfl
 have hnm : nm.length ≤ 60 := hp nm (by simp)
 by_cases h1 : w = Zm7
 ·subst h1
  walk_at "dz"
  rw [Zgk, show (some 2 : Option Int) = some ((2 : Nat) : Int) from rfl, Zv1]
  refine ⟨ls, vw, nm, ps, rfl, hnm, fun z hz => has z (by simp [hz]), ?_⟩
  have e : rdW ls vw (Zm7 :: nm :: ps) = Zgs ls vw nm ps := rfl
  rw [e] at q
  cases hd : Zgs ls vw nm ps with
  | inl w => rw [hd] at q; exact Zc1 q
  | inr st => rw [hd] at q; exact Zak q
 refine z_F (no1 _ h1) ?_
 walk_at "dz"
 by_cases h2 : w = Zhw
 ·subst h2
  walk_at "dz"
  have er : rdW ls vw (Zhw :: nm :: ps) = rdWr ls vw nm ps := rfl
  rw [er] at q raise
  rcases ps with _ | ⟨f, _ | ⟨n, _ | ⟨m, ps⟩⟩⟩
  ·walk_at "dz"
   exact raise _ rfl
  ·walk_at "dz"
   exact raise _ rfl
  ·walk_at "dz"
   by_cases hf : f = Zs0
   ·subst hf
    walk_at "dz"
    have hn : n.length ≤ 60 := hp n (by simp)
    rw [show rdWr ls vw nm [Zs0, n] = Zig ls vw nm n from rfl] at q
    unfold Zig at q
    refine ⟨M.length, ls, vw, nm, n, rfl, Qj .., hnm, hn, fun no o => ?_, fun ox no o => ?_, fun c ec ox on => ?_⟩
    ·rw [if_neg no] at q
     exact Zq9 (Zc1 q)
    ·rw [if_pos ox, if_neg no] at q
     exact Zq9 (Zc1 q)
    ·rw [if_pos ox, if_pos on] at q
     subst ec
     exact Zd0 (Zak q)
   ·rw [decide_eq_false hf]
    walk_at "dz"
    have : rdWr ls vw nm [f, n] = .inl Ze4 := by show (if f = Zs0 then _ else _) = _; rw [if_neg hf]
    exact raise _ this
  ·walk_at "dz"
   exact raise _ rfl
 refine z_F (no1 _ h2) ?_
 walk_at "dz"
 by_cases h3 : w = Zm6
 ·subst h3
  walk_at "dz"
  have er : rdW ls vw (Zm6 :: nm :: ps) = rdOn ls vw nm ps := rfl
  rw [er] at q raise
  rcases ps with _ | ⟨f, ps⟩
  ·walk_at "dz"
   have q' : Zxj (alph ls vw) M Q E (Zny ls vw nm) := q
   unfold Zny at q'
   refine ⟨M.length, ls, vw, nm, rfl, Qj .., hnm, fun no o => ?_, fun on => ?_⟩
   ·rw [if_neg no] at q'
    exact Zq9 (Zc1 q')
   ·rw [if_pos on] at q'
    exact Zd0 (Zak q')
  ·walk_at "dz"
   exact raise _ rfl
 refine z_F (no1 _ h3) ?_
 walk_at "dz"
 by_cases h4 : w = Zs1
 ·subst h4
  walk_at "dz"
  have er : rdW ls vw (Zs1 :: nm :: ps) = rdAd ls nm ps := rfl
  rw [er] at q raise
  rcases ps with _ | ⟨f, ps⟩
  ·walk_at "dz"
   have q' : Zxj (alph ls vw) M Q E (Zuc ls nm) := q
   unfold Zuc at q'
   refine ⟨M.length, ls, vw, nm, rfl, Qj .., hnm, fun no o => ?_, fun c ec on => ?_⟩
   ·rw [if_neg no] at q'
    exact Zq9 (Zc1 q')
   ·rw [if_pos on] at q'
    subst ec
    exact Zd0 (Zak q')
  ·walk_at "dz"
   exact raise _ rfl
 refine z_F (no1 _ h4) ?_
 walk_at "dz"
 exact raise _ (by simp only [rdW, if_neg h1, if_neg h2, if_neg h3, if_neg h4])
local macro_rules | `(tactic| walk_at "fz") => `(tactic| repeat with_reducible refine Wg.go ?_)
theorem Zvl (a b : Nat) (m : List Nat) : inner (a :: (m ++ [b])) = m := by
 unfold inner cut
 have hl : (a :: (m ++ [b])).length = m.length + 2 := by simp
 have e1 : HT.sIx (a :: (m ++ [b])).length 0 (some 1) = 1 := by
  show HT.sIx _ _ (some ((1 : Nat) : Int)) = 1
  rw [HT.sIx_nat, hl]
  omega
 have e2 : HT.sIx (a :: (m ++ [b])).length (a :: (m ++ [b])).length (some (-1)) = m.length + 1 := by
  rw [Z4e, hl]
  omega
 rw [e1, e2]
 show (m ++ [b]).take (m.length + 1 - 1) = m
 rw [Nat.add_sub_cancel, Gm]
 rfl
theorem Zxk {ls z : List Nat} (h : okS ls z) : z = 91 :: (inner z ++ [93]) := by
 obtain ⟨h3, h0, h1, _, _⟩ := h
 rcases z with _ | ⟨a, y⟩
 ·simp at h3
 rcases List.eq_nil_or_concat y with rfl | ⟨m, b, rfl⟩
 ·simp at h3
 rw [List.concat_eq_append] at *
 rw [Zvl]
 have ea : a = 91 := by
  have : atI (a :: (m ++ [b])) ((0 : Nat) : Int) = some a := atI_nat rfl
  have h0' : atI (a :: (m ++ [b])) ((0 : Nat) : Int) = some 91 := h0
  rw [this] at h0'
  exact Qx h0'
 have eb : b = 93 := by
  have : atI (a :: (m ++ [b])) (-1) = some b := by
   unfold atI
   have hl : (a :: (m ++ [b])).length = m.length + 2 := by simp
   have e : ixN (m.length + 2) (-1) = some (m.length + 1) := by
    unfold ixN
    rw [if_neg (by decide), if_pos (by omega)]
    congr 1
    omega
   rw [hl, e]
   show (a :: (m ++ [b]))[m.length + 1]? = some b
   simp
  rw [this] at h1
  exact Qx h1
 rw [ea, eb]
theorem Zxl {ls z : List Nat} (h : okN ls z) (sm : ∀ c ∈ ls, c ∈ small) : ∀ c ∈ z, c ∈ 91 :: 93 :: 45 :: small := by
 rcases h with rfl | rfl | rfl | rfl | rfl | h
 ·decide
 ·decide
 ·decide
 ·decide
 ·decide
 ·rw [Zxk h]
  intro c hc
  rcases Qg.mp hc with rfl | hc
  ·exact Qp
  ·rcases Q2.mp hc with hc | hc
   ·have := Zpz.mp h.2.2.2.1 c hc
    rcases Qg.mp this with rfl | hc
    ·decide
    ·exact Qh _ (Qh _ (Qh _ (sm c hc)))
   ·rw [Qq.mp hc]
    decide
def Stg.words : Stg → List (List Nat)
 | .drop nm _ a e l => [Zm7, nm] ++ (if 0 < a then [txAf, dig a] else []) ++ (if e = true then [Zc5] else []) ++ (if l = true then [Zds, Zby] else [])
 | .write x nm _ => [Zhw, [x], Zs0, nm]
 | .once nm _ => [Zm6, nm]
 | .add x => [Zs1, [x]]
theorem Zke (st : Stg) : glue [32] st.words = st.text := by
 cases st with
 | drop nm ch a e l =>
  simp only [Stg.words, Stg.text]
  by_cases ha : 0 < a
  ·rw [if_pos ha, if_pos ha]
   cases e <;> cases l <;> simp [glue]
  ·rw [if_neg ha, if_neg ha]
   cases e <;> cases l <;> simp [glue]
 | write x nm ch => simp [Stg.words, Stg.text, glue]
 | once nm ch => simp [Stg.words, Stg.text, glue]
 | add x => simp [Stg.words, Stg.text, glue]
abbrev Zki : List Nat := 91 :: 93 :: 45 :: 48 :: 49 :: 50 :: 51 :: small
theorem Zim {ls z : List Nat} (h : okN ls z) (sm : ∀ c ∈ ls, c ∈ small) : ∀ c ∈ z, c ∈ Zki := fun c hc => by
 have := Zxl h sm c hc
 simp only [Qg] at this ⊢
 rcases this with h | h | h | h
 ·exact Or.inl h
 ·exact Or.inr (Or.inl h)
 ·exact Or.inr (Or.inr (Or.inl h))
 ·exact Or.inr (Or.inr (Or.inr (Or.inr (Or.inr (Or.inr (Or.inr h))))))
theorem Zfz {ls vw : List Nat} {st : Stg} (o : st.ok ls vw) (sm : ∀ c ∈ ls, c ∈ small) : ∀ p ∈ st.words, (∀ c ∈ p, c ∈ Zki) ∧ p.length ≤ 60 := by
 have sg : ∀ x, x ∈ 45 :: ls → (∀ c ∈ [x], c ∈ Zki) := fun x hx c hc => by
  rw [Qq.mp hc]
  rcases Qg.mp hx with rfl | hx
  ·decide
  ·have := sm x hx
   simp only [Qg] at this ⊢
   exact Or.inr (Or.inr (Or.inr (Or.inr (Or.inr (Or.inr (Or.inr this))))))
 cases st with
 | drop nm ch a e l =>
  obtain ⟨on, rfl, hn, ha⟩ := o
  intro p hp
  have hd : ∀ k ≤ 3, (∀ c ∈ dig k, c ∈ Zki) := fun k hk c hc => by
   have e : c = 48 + k := by simpa [dig] using hc
   rcases (show k = 0 ∨ k = 1 ∨ k = 2 ∨ k = 3 by omega) with rfl | rfl | rfl | rfl <;> (subst e; decide)
  simp only [Stg.words] at hp
  rcases Q2.mp hp with hp | hp
  ·rcases Q2.mp hp with hp | hp
   ·rcases Q2.mp hp with hp | hp
    ·simp only [Qg, Qn, or_false] at hp
     rcases hp with rfl | rfl
     ·exact ⟨by decide, by decide⟩
     ·exact ⟨Zim on sm, hn⟩
    ·split at hp
     ·simp only [Qg, Qn, or_false] at hp
      rcases hp with rfl | rfl
      ·exact ⟨by decide, by decide⟩
      ·exact ⟨hd a ha, by simp [dig]⟩
     ·cases hp
   ·split at hp
    ·rw [Qq.mp hp]
     exact ⟨by decide, by decide⟩
    ·cases hp
  ·split at hp
   ·simp only [Qg, Qn, or_false] at hp
    rcases hp with rfl | rfl
    ·exact ⟨by decide, by decide⟩
    ·exact ⟨by decide, by decide⟩
   ·cases hp
 | write x nm ch =>
  obtain ⟨hx, on, rfl, hn⟩ := o
  intro p hp
  simp only [Stg.words, Qg, Qn, or_false] at hp
  rcases hp with rfl | rfl | rfl | rfl
  ·exact ⟨by decide, by decide⟩
  ·exact ⟨sg x hx, by simp⟩
  ·exact ⟨by decide, by decide⟩
  ·exact ⟨Zim on sm, hn⟩
 | once nm ch =>
  obtain ⟨on, rfl, hn⟩ := o
  intro p hp
  simp only [Stg.words, Qg, Qn, or_false] at hp
  rcases hp with rfl | rfl
  ·exact ⟨by decide, by decide⟩
  ·exact ⟨Zim on sm, hn⟩
 | add x =>
  intro p hp
  simp only [Stg.words, Qg, Qn, or_false] at hp
  rcases hp with rfl | rfl
  ·exact ⟨by decide, by decide⟩
  ·exact ⟨sg x o, by simp⟩
theorem Zwv (st : Stg) : st.words ≠ [] := by cases st <;> simp [Stg.words]
theorem Zhg {ls vw : List Nat} {st : Stg} (o : st.ok ls vw) (sm : ∀ c ∈ ls, c ∈ small) : wds st.text = st.words := by
 rw [← Zke]
 exact Zqs (Zwv st) fun p hp h => by
  have := (Zfz o sm p hp).1 32 h
  revert this
  decide
theorem Zrj (s : List Nat) : ∀ ys : List (List Nat), (glue s ys).length ≤ (ys.map List.length).sum + ys.length * s.length
 | [] => by simp [glue]
 | [x] => by simp [glue]
 | x :: y :: r => by
  have := Zrj s (y :: r)
  show (x ++ (s ++ glue s (y :: r))).length ≤ _
  rw [Qc, Qc, Ha, G6, Qe (a := x), Td]
  omega
theorem Zri {s : List Nat} {c : Nat} : ∀ {ys : List (List Nat)}, c ∈ glue s ys → c ∈ s ∨ ∃ y ∈ ys, c ∈ y
 | [], h => by cases h
 | [x], h => Or.inr ⟨x, by simp, h⟩
 | x :: y :: r, h => by
  have h' : c ∈ x ++ (s ++ glue s (y :: r)) := h
  rcases Q2.mp h' with h | h
  ·exact Or.inr ⟨x, by simp, h⟩
  ·rcases Q2.mp h with h | h
   ·exact Or.inl h
   ·rcases Zri h with h | ⟨z, hz, h⟩
    ·exact Or.inl h
    ·exact Or.inr ⟨z, Qh _ hz, h⟩
theorem Zm8 {ls vw : List Nat} {st : Stg} (o : st.ok ls vw) (sm : ∀ c ∈ ls, c ∈ small) : ∀ c ∈ st.text, c ∈ 32 :: Zki := fun c hc => by
 rw [← Zke] at hc
 rcases Zri hc with h | ⟨y, hy, h⟩
 ·rw [Qq.mp h]; decide
 ·exact Qh _ ((Zfz o sm y hy).1 c h)
theorem Zqp {ls vw : List Nat} {st : Stg} (o : st.ok ls vw) (sm : ∀ c ∈ ls, c ∈ small) : ∀ c ∈ st.text, c < 1114112 := fun c hc => by
 have h := Zm8 o sm c hc
 have key : ∀ x ∈ 32 :: Zki, x < 1114112 := by decide
 exact key c h
theorem text_len {ls vw : List Nat} {st : Stg} (o : st.ok ls vw) : st.text.length ≤ 150 := by
 cases st with
 | drop nm ch a e l =>
  obtain ⟨_, _, hn, _⟩ := o
  simp only [Stg.text, Qc]
  have h1 : (if 0 < a then [32, 97, 102, 116, 101, 114, 32] ++ dig a else []).length ≤ 8 := by split <;> simp [dig]
  have h2 : (if e = true then [32, 101, 97, 99, 104] else ([] : List Nat)).length ≤ 5 := by split <;> simp
  have h3 : (if l = true then [32, 98, 117, 116, 32, 108, 97, 115, 116] else ([] : List Nat)).length ≤ 9 := by split <;> simp
  simp only [Qe, Qm] at *
  omega
 | write x nm ch =>
  obtain ⟨_, _, _, hn⟩ := o
  simp [Stg.text]
  omega
 | once nm ch =>
  obtain ⟨_, _, hn⟩ := o
  simp [Stg.text]
  omega
 | add x => simp [Stg.text]
theorem Zl4 {ls vw : List Nat} {st : Stg} (o : st.ok ls vw) : rdW ls vw st.words = .inr st := by
 cases st with
 | drop nm ch a e l =>
  obtain ⟨on, rfl, hn, ha⟩ := o
  have fin : ∀ r num, Zax ((if 0 < a then [txAf, dig a] else []) ++ (if e = true then [Zc5] else []) ++ (if l = true then [Zds, Zby] else [])) = (num, r) → (Zbv r) = (e, if l = true then [Zds, Zby] else []) → Znz ls vw nm e l num = .inr (.drop nm (mem ls vw nm) a e l) → rdW ls vw (Stg.drop nm (mem ls vw nm) a e l).words = .inr (.drop nm (mem ls vw nm) a e l) := by
   intro r num h1 h2 h3
   have e0 : rdW ls vw (Stg.drop nm (mem ls vw nm) a e l).words = Zgs ls vw nm ((if 0 < a then [txAf, dig a] else []) ++ (if e = true then [Zc5] else []) ++ (if l = true then [Zds, Zby] else [])) := by
    simp only [Stg.words, Hi]
    rfl
   rw [e0]
   unfold Zgs
   rw [h1, h2]
   have hor : (if l = true then [Zds, Zby] else []) = [] ∨ (if l = true then [Zds, Zby] else []) = [Zds, Zby] := by cases l <;> simp
   have hl : decide ((if l = true then [Zds, Zby] else []) ≠ []) = l := by cases l <;> rfl
   simp only
   rw [if_pos hor, if_pos on, hl]
   exact h3
  by_cases h0 : 0 < a
  ·refine fin _ (some (dig a)) (by rw [if_pos h0]; rfl) ?_ ?_
   ·cases e <;> cases l <;> rfl
   ·have hn : numT (dig a) = some a := by
     rcases (show a = 1 ∨ a = 2 ∨ a = 3 by omega) with rfl | rfl | rfl <;> rfl
    unfold Znz
    simp only [hn]
  ·have ea : a = 0 := by omega
   subst ea
   refine fin ((if e = true then [Zc5] else []) ++ (if l = true then [Zds, Zby] else [])) none ?_ ?_ rfl
   ·cases e <;> cases l <;> rfl
   ·cases e <;> cases l <;> rfl
 | write x nm ch =>
  obtain ⟨hx, on, rfl, hn⟩ := o
  show Zig ls vw [x] nm = _
  unfold Zig
  rw [if_pos (Zzg hx), if_pos on]
  rfl
 | once nm ch =>
  obtain ⟨on, rfl, hn⟩ := o
  show Zny ls vw nm = _
  unfold Zny
  rw [if_pos on]
 | add x =>
  show Zuc ls [x] = _
  unfold Zuc
  rw [if_pos (Zzg o)]
  rfl
theorem Zz8 {M : Mem} {Q : DQ} {X : DX} {ls vw : List Nat} {st : Stg} (o : st.ok ls vw) (sm : ∀ c ∈ ls, c ∈ small) (h : Q (.v (st.pv (alph ls vw))) M) : Zbn [.v (alph ls vw), vS st.text] M Q X := by
 refine ⟨ls, vw, st.text, rfl, Hb (text_len o) (by decide), ?_, Zqp o sm, ?_⟩
 ·rw [Zhg o sm]
  exact fun p hp => (Zfz o sm p hp).2
 ·rw [Zhg o sm, Zl4 o]
  exact h
abbrev Zb6 (al : PV) (sts : List Stg) : PV := .obj .Rule [al, .tup (sts.map (Stg.pv al))]
def Zdd (ls vw : List Nat) (sts : List Stg) : Prop := ∀ st ∈ sts, st.ok ls vw
abbrev Z0q : List Nat := [99, 111, 117, 110, 116]
abbrev Zgo : List Nat := [107, 101, 101, 112]
def Zjp (ps : List ((List Nat × List Nat) × Stg)) : List PV := ps.map fun p => p.2.pv (alph p.1.1 p.1.2)
theorem Zqq (ls vw : List Nat) (sts : List Stg) : Zjp (sts.map fun st => ((ls, vw), st)) = sts.map (Stg.pv (alph ls vw)) := by
 unfold Zjp
 rw [Qk]
 rfl
def vals : List Stg → List Sta → List PV
 | st :: sts, s :: ss => st.val s :: vals sts ss
 | _, _ => []
def push : List Stg → List Sta → List Nat → List Sta × List Nat
 | st :: sts, s :: ss, z => (st.aft s z :: (push sts ss (st.outs s z).flatten).1, (push sts ss (st.outs s z).flatten).2)
 | _, ss, z => (ss, z)
def new (sts : List Stg) : List Sta := sts.map fun _ => {}
def Zbp (sts : List Stg) : List Nat := if sts = [] then Zgo else glue [59, 32] (sts.map Stg.text)
def Zba : DSp := fun ds M Q E => ∃ n ls vw ps, ds = [.cell n, .v (alph ls vw), .v (.tup (Zjp ps))] ∧ M[n]? = some (some (.obj .Rule [])) ∧
 (4 < ps.length → E ⟨.BadRule, [.str Z0q, .int 5]⟩ M) ∧ (ps.length ≤ 4 → (∃ p ∈ ps, p.1 ≠ (ls, vw)) → E ⟨.Mixed, []⟩ M) ∧
 (ps.length ≤ 4 → (∀ p ∈ ps, p.1 = (ls, vw)) → Q (.v .non) (M.set n (some (.obj .Rule [.v (alph ls vw), .v (.tup (Zjp ps))]))))
def Za9 : DSp := fun ds M Q _ => ∃ al ls vw sts, ds = [.v (Zb6 al sts)] ∧ Zdd ls vw sts ∧ sts.length ≤ 10 ∧ Q (vS (Zbp sts)) M
section
variable (ds : List D) (M : Mem) (Q : DQ) (E : DX)
theorem Zis (h : Za9 ds M Q E) : ds.length = 1 := by obtain ⟨_, _, _, _, rfl, _⟩ := h; rfl
end
abbrev Stp := Option (Int × List Nat)
def stpP : Stp → PV
 | none => .non
 | some (p, t) => .tup [.int p, .str t]
def endP : Option (List Nat) → PV
 | none => .non
 | some t => .str t
def rowP (r : List Stp) : PV := .lst (r.map stpP)
abbrev Z7y (rs : List (List Stp)) : PV := .lst (rs.map rowP)
abbrev Z89 (es : List (Option (List Nat))) : PV := .lst (es.map endP)
def ascT (rs : List (List Stp)) (es : List (Option (List Nat))) : Prop := (Z7y rs).lay 60 = true ∧ (Z89 es).lay 60 = true
structure OkT (ls : List Nat) (f : List Nat) (rs : List (List Stp)) (es : List (Option (List Nat))) (b : Nat) : Prop where
 ne : rs ≠ []
 le : rs.length = es.length
 fl : f.length ≤ b
 fw : isW ls f = true
 w : ∀ r ∈ rs, r.length = ls.length + 1
 s : ∀ r ∈ rs, ∀ p t, some (p, t) ∈ r → 0 ≤ p ∧ p < rs.length ∧ isW ls t = true ∧ t.length ≤ b
 e : ∀ t, some t ∈ es → isW ls t = true ∧ t.length ≤ b
def Z27 (o : List Nat) (s : Int) : List Nat := if 0 ≤ s ∧ s.toNat ∉ o then o ++ [s.toNat] else o
def Zub (rows : List (List Int)) (o : List Nat) (p : Nat) : List Nat := match o[p]? with
 | some q => (rows.getD q []).foldl Z27 o
 | none => o
def Zq2 (rows : List (List Int)) : List Nat := (List.range rows.length).foldl (Zub rows) [0]
def Z1q (n : Nat) (rows : List (List Int)) : Prop := ∀ r ∈ rows, ∀ s ∈ r, -1 ≤ s ∧ s < n
def itr {α : Type} (f : α → α) : Nat → α → α
 | 0, x => x
 | n + 1, x => f (itr f n x)
def Zck (E : DX) : DS :=
 dSeq (dIfS (Zah (dOp uGt (dCB uLen (Zaa (dVar 2) dNil)) (dC (.int 4)))) (Zms .BadRule E (Zaa (dOp uAdd (dC (.int 4)) (dC (.int 1))) (Zaa (dC (.str [99, 111, 117, 110, 116])) dNil))) Zam) (dSeq (dFor (jTup (dVar 2)) (hName 3) (dIfS (Zah (dOp (uNeO .Alphabet Zar) (dFld (dVar 3) .alphabet) (dVar 1))) (Zmt .Mixed E) Zam)) (dSeq (dStF (dVar 0) (dVar 1) .alphabet) (dStF (dVar 0) (Zrq (dVar 2)) .stages)))
def Zci : DS :=
 dSeq (dIfS (dNot (dTru (dFld (dVar 0) .stages))) (dRet (dC (.str [107, 101, 101, 112]))) Zam) (dRet (dBm tyS Zgy (dC (.str [59, 32])) (Zaa (dLc (jTup (dFld (dVar 0) .stages)) (hName 1) dYes (Zd5 Zi0 [] noX (dVar 1) dNil) [1]) dNil)))
local macro_rules | `(tactic| walk_at "fz") => `(tactic| repeat with_reducible refine Wg.go ?_)
local macro_rules | `(tactic| walk_at "dw") => `(tactic| (((first | with_reducible refine k_fo (by with_unfolding_all exact rfl) ?_ | fail); walk_at "fz"); walk_at "dw"))
theorem Z0v {ps : List ((List Nat × List Nat) × Stg)} {i : Nat} {x : D} (h : ((Zjp ps).map D.v)[i]? = some x) : ∃ p, ps[i]? = some p ∧ x = .v (p.2.pv (alph p.1.1 p.1.2)) := by
 unfold Zjp at h
 rw [Qk, Ql] at h
 cases hp : ps[i]? with
 | none => rw [hp] at h; cases h
 | some p => rw [hp] at h; cases h; exact ⟨p, rfl, rfl⟩
theorem Z0t {al : PV} {sts : List Stg} {i : Nat} {x : D} (h : ((sts.map (Stg.pv al)).map D.v)[i]? = some x) : ∃ st, sts[i]? = some st ∧ x = .v (st.pv al) := by
 rw [Qk, Ql] at h
 cases hp : sts[i]? with
 | none => rw [hp] at h; cases h
 | some p => rw [hp] at h; cases h; exact ⟨p, rfl, rfl⟩
theorem Zlx (ds : List D) (M : Mem) (Q : DQ) (E : DX) (h : Zba ds M Q E) : Zck E { nx := fun _ M' => Q (.v .non) M', rt := Q } (Zae 4 ds) M := by
 obtain ⟨n, ls, vw, ps, rfl, hM, kc, km, kq⟩ := h
 show Zck E _ [some (.cell n), some (.v (alph ls vw)), some (vT (Zjp ps)), none] M
 unfold Zck
 have hn := (Qa.mp hM).1
 have gs : ∀ x : Cell, (M.set n (some x))[n]? = some (some x) := fun x => Qt hn
 have hl : (Zjp ps).length = ps.length := by simp [Zjp]
 walk_at "dz"
 rw [hl]
 refine ite2 (fun h => ?_) (fun h => ?_)
 ·have h4 : 4 < ps.length := by have := of_decide_eq_true h; omega
  walk_at "dz"
  exact ⟨_, _, rfl, kc h4⟩
 have h4 : ps.length ≤ 4 := by
  have : ¬ ((4 : Int) < ps.length) := fun q => h (decide_eq_true q)
  omega
 walk_at "dz"
 refine Zc0 (fun i ds M' => M' = M ∧ (∃ v3, ds = [some (.cell n), some (.v (alph ls vw)), some (vT (Zjp ps)), v3]) ∧ ∀ j p, j < i → ps[j]? = some p → p.1 = (ls, vw)) ⟨rfl, ⟨_, rfl⟩, fun j p hj => absurd hj (Nat.not_lt_zero _)⟩ ?_ ?_
 ·rintro i x ds M1 N hx ⟨rfl, ⟨v3, rfl⟩, hi⟩ hN
  obtain ⟨p, hp, rfl⟩ := Z0v hx
  walk_at "dz"
  refine Zx7 ?_
  walk_at "dz"
  refine ⟨_, _, Zay, Zay, p.1.1, p.1.2, ls, vw, rfl, ⟨_, rfl, ?_⟩⟩
  walk_at "dz"
  by_cases he : p.1 = (ls, vw)
  ·have e1 : p.1.1 = ls := by rw [he]
   have e2 : p.1.2 = vw := by rw [he]
   rw [decide_eq_true e1, decide_eq_true e2]
   walk_at "dz"
   refine hN _ _ ⟨rfl, ⟨_, rfl⟩, fun j q hj hq => ?_⟩
   rcases Nat.lt_succ_iff_lt_or_eq.mp hj with hj | rfl
   ·exact hi j q hj hq
   ·rw [hp] at hq
    cases hq
    exact he
  ·have : (decide (p.1.1 = ls) && decide (p.1.2 = vw)) = false := by
    rw [Bool.and_eq_false_iff]
    by_cases e1 : p.1.1 = ls
    ·right
     exact decide_eq_false fun e2 => he (Prod.ext e1 e2)
    ·left
     exact decide_eq_false e1
   rw [this]
   walk_at "dz"
   exact km h4 ⟨p, Qr hp, he⟩
 ·rintro ds M1 ⟨rfl, ⟨v3, rfl⟩, hi⟩
  have hall : ∀ p ∈ ps, p.1 = (ls, vw) := fun p hp => by
   obtain ⟨j, hj, e⟩ := List.getElem_of_mem hp
   exact hi j p (by rw [Qb, hl]; exact hj) (by rw [Qa]; exact ⟨hj, e⟩)
  walk_at "dz"
  refine k_put hM (by with_unfolding_all exact rfl) (by decide) ?_
  walk_at "dz"
  refine k_put (gs _) (by with_unfolding_all exact rfl) (by decide) ?_
  rw [Qy]
  exact kq h4 hall
local macro_rules | `(tactic| walk_at "fz") => `(tactic| repeat with_reducible refine Wg.go ?_)
theorem Z46 {M : Mem} {xs : List PV} {p : Bool → Prop} (h : p (!xs.isEmpty)) : ∃ k, truD M (vT xs) = some k ∧ (∀ z, vT xs = vS z → z.length ≤ sizeLine) ∧ p k := ⟨_, rfl, (fun _ e => by cases e), h⟩
theorem Zlv (ds : List D) (M : Mem) (Q : DQ) (E : DX) (h : Za9 ds M Q E) : Zci { nx := fun _ M' => Zad M Q (.v .non) M', rt := Zad M Q } (Zae 2 ds) M := by
 obtain ⟨al, ls, vw, sts, rfl, ok, hl, q⟩ := h
 show Zci _ [some (.v (Zb6 al sts)), none] M
 unfold Zci
 walk_at "dz"
 refine Z46 ?_
 unfold Zbp at q
 cases sts with
 | nil =>
  rw [if_pos rfl] at q
  walk_at "dz"
  exact Zak q
 | cons st0 sts0 =>
  rw [if_neg (by simp)] at q
  revert ok hl q
  generalize hs : st0 :: sts0 = sts
  intro ok hl q
  have hne : (!(sts.map (Stg.pv al)).isEmpty) = true := by rw [← hs]; rfl
  rw [hne]
  walk_at "dz"
  refine Zrt (fun i acc M' => M' = M ∧ acc = ((sts.take i).map Stg.text).map PV.str) ⟨rfl, rfl⟩ ?_ ?_
  ·rintro i x acc M1 N hx ⟨rfl, rfl⟩ hN
   obtain ⟨st, hst, rfl⟩ := Z0t hx
   walk_at "dz"
   refine Z6j st (ok st (Qr hst)) fun sp hsp => ?_
   walk_at "dz"
   refine hsp ?_
   refine ⟨_, rfl, by rw [Qb, Qb, Qw, sizeLine_eq]; omega, hN _ _ ⟨rfl, ?_⟩⟩
   rw [Hw, hst]
   simp
  ·rintro acc M1 ⟨rfl, rfl⟩
   have e : (sts.take ((sts.map (Stg.pv al)).map D.v).length) = sts := by
    rw [Qb, Qb]
    exact Q8
   rw [e]
   walk_at "dz"
   refine Zpx rfl ?_ ?_
   ·have h2 : ∀ l : List Stg, (∀ y ∈ l, y.ok ls vw) → ((l.map Stg.text).map List.length).sum ≤ 150 * l.length := by
     intro l
     induction l with
     | nil => intro _; simp
     | cons x l ih =>
      intro hx
      have a := text_len (hx x (by simp))
      have b := ih fun p hm => hx p (by simp [hm])
      rw [Ha, Ha, G6, Qe]
      omega
    have := h2 sts ok
    rw [Qb]
    simp only [Qe, Qm]
    omega
   ·exact Zak q
local macro_rules | `(tactic| walk_at "fz") => `(tactic| repeat with_reducible refine Wg.go ?_)
theorem Zhr {M : Mem} {Q : DQ} {X : DX} {ls vw : List Nat} {sts : List Stg} (h4 : sts.length ≤ 4) (h : Q (.v (Zb6 (alph ls vw) sts)) M) : ∃ al ps, (D.v (alph ls vw) :: (sts.map (Stg.pv (alph ls vw))).map D.v) = al :: ps.map D.v ∧ ps.length ≤ sizeLine ∧
  Zba [.cell M.length, al, .v (.tup ps)] (M ++ [some (.obj .Rule [])]) (mkQ .Rule M Q) (Zbf M X) := by
 refine ⟨_, _, rfl, by rw [Qb, sizeLine_eq]; omega, ?_⟩
 rw [← Zqq]
 refine ⟨M.length, ls, vw, _, rfl, Qj .., fun h => ?_, fun _ ⟨p, hp, ne⟩ => ?_, fun _ _ => ?_⟩
 ·rw [Qb] at h
  omega
 ·obtain ⟨_, _, rfl⟩ := Qs.mp hp
  exact absurd rfl ne
 ·rw [Zqq]
  exact Zd0 (ps := [alph ls vw, .tup (sts.map (Stg.pv (alph ls vw)))]) h
theorem Zs2 (st : Stg) : ∃ c r, st.text = c :: r ∧ c ≠ 107 := by
 cases st with
 | drop nm ch a e l => exact ⟨100, _, rfl, by decide⟩
 | write x nm ch => exact ⟨119, _, rfl, by decide⟩
 | once nm ch => exact ⟨111, _, rfl, by decide⟩
 | add x => exact ⟨97, _, rfl, by decide⟩
theorem Zvo (s : List Nat) (a : List Nat) (r : List (List Nat)) : ∃ t, glue s (a :: r) = a ++ t := by
 cases r with
 | nil => exact ⟨[], by simp [glue]⟩
 | cons b r => exact ⟨_, by rw [glue]⟩
theorem Zf0 {sts : List Stg} (h : Zbp sts = Zgo) : sts = [] := by
 cases sts with
 | nil => rfl
 | cons st sts =>
  unfold Zbp at h
  rw [if_neg (by simp)] at h
  obtain ⟨c, r, e, hc⟩ := Zs2 st
  obtain ⟨t, e2⟩ := Zvo [59, 32] st.text (sts.map Stg.text)
  rw [Ha, e2, e] at h
  exact absurd (Hs h).1 hc
theorem Zhx {ls vw : List Nat} {sts : List Stg} (hne : sts ≠ []) (ok : Zdd ls vw sts) (sm : ∀ c ∈ ls, c ∈ small) : TL.spl [59, 32] 0 [] (Zbp sts) = sts.map Stg.text := by
 unfold Zbp
 rw [if_neg hne]
 refine Zqs (by simpa using hne) fun p hp hc => ?_
 obtain ⟨st, hs, rfl⟩ := Qs.mp hp
 have := Zm8 (ok st hs) sm 59 hc
 revert this
 decide
theorem Zs3 {ls vw : List Nat} {sts : List Stg} (ok : Zdd ls vw sts) (hl : sts.length ≤ 10) : (Zbp sts).length ≤ 2000 := by
 unfold Zbp
 by_cases h : sts = []
 ·rw [if_pos h]; decide
 rw [if_neg h]
 have h1 := Zrj [59, 32] (sts.map Stg.text)
 have h2 : ∀ l : List Stg, (∀ y ∈ l, y.ok ls vw) → ((l.map Stg.text).map List.length).sum ≤ 150 * l.length := by
  intro l
  induction l with
  | nil => intro _; simp
  | cons x l ih =>
   intro hx
   have a := text_len (hx x (by simp))
   have b := ih fun p hm => hx p (by simp [hm])
   rw [Ha, Ha, G6, Qe]
   omega
 have := h2 sts ok
 rw [Qb] at h1
 simp only [Qe, Qm] at h1
 omega
def Zcr : DSp := fun ds M Q _ => ∃ ls vw sts, ds = [.v (.cls .Rule), .v (alph ls vw), vS (Zbp sts)] ∧ Zdd ls vw sts ∧ (∀ c ∈ ls, c ∈ small) ∧ sts.length ≤ 4 ∧ Q (.v (Zb6 (alph ls vw) sts)) M
section
variable (ds : List D) (M : Mem) (Q : DQ) (E : DX)
theorem Zit (h : Zcr ds M Q E) : ds.length = 3 := by obtain ⟨_, _, _, rfl, _⟩ := h; rfl
end
def Zcj : DS :=
 dSeq (dIfS (Zah (dOp uEq (dVar 2) (dC (.str [107, 101, 101, 112])))) (dRet (Zgw .Rule Zba noX (dVar 0) (Zaa (dVar 1) dNil))) Zam) (dSeq (dAsg (Zoq dNil) (hName 3)) (dSeq (dFor (jLst (dBm tyS Zm5 (dVar 2) (Zaa (dC (.str [59, 32])) dNil))) (hName 4) (dSeq (dIfS (Zah (dOp uEq (dCB uLen (Zaa (dVar 3) dNil)) (dC (.int 4)))) Zjb Zam) (Zeh (dBm tyL uApp (dVar 3) (Zaa (Zd6 Zbn noX (Zaa (dVar 1) (Zaa (dVar 4) dNil))) dNil))))) (dRet (Zgw .Rule Zba noX (dVar 0) (Zaa (dVar 1) (Zp8 (dVar 3) dNil))))))
local macro_rules | `(tactic| walk_at "fz") => `(tactic| repeat with_reducible refine Wg.go ?_)
theorem Zlw (ds : List D) (M : Mem) (Q : DQ) (E : DX) (h : Zcr ds M Q E) : Zcj { nx := fun _ M' => Zad M Q (.v .non) M', rt := Zad M Q } (Zae 6 ds) M := by
 obtain ⟨ls, vw, sts, rfl, ok, sm, hl, q⟩ := h
 show Zcj _ [some (.v (.cls .Rule)), some (.v (alph ls vw)), some (vS (Zbp sts)), none, none, none] M
 unfold Zcj
 have hlen := Zs3 ok (by omega)
 walk_at "dz"
 by_cases hne : sts = []
 ·subst hne
  rw [show Zbp [] = Zgo from rfl]
  walk_at "dz"
  exact Zhr (sts := []) (by decide) (Zak q)
 rw [decide_eq_false (fun e => hne (Zf0 e))]
 walk_at "dz"
 refine Zu6 (by simp) (by decide) (by walk_at "sz") ?_
 rw [Zhx hne ok sm]
 walk_at "dz"
 refine Zc0 (fun i ds M' => ∃ v4, M' = M ++ [some (.lst (((sts.take i).map (Stg.pv (alph ls vw))).map D.v))] ∧ ds = [some (.v (.cls .Rule)), some (.v (alph ls vw)), some (vS (Zbp sts)), some (.cell M.length), v4, none]) ⟨_, rfl, rfl⟩ ?_ ?_
 ·rintro i x ds M1 N hx ⟨v4, rfl, rfl⟩ hN
  rw [Qk, Qk, Ql] at hx
  cases hst : sts[i]? with
  | none => rw [hst] at hx; cases hx
  | some st =>
   rw [hst] at hx
   cases hx
   have hi := (Qa.mp hst).1
   have hti : (((sts.take i).map (Stg.pv (alph ls vw))).map D.v).length = i := by
    rw [Qb, Qb, Qw]
    omega
   walk_at "dz"
   refine Z5j (Qj ..) ?_
   rw [hti]
   walk_at "dz"
   rw [show decide ((i : Int) = 4) = false from decide_eq_false (by omega)]
   walk_at "dz"
   refine Z1x Zpt ?_
   walk_at "dz"
   refine Zz8 (ok st (Qr hst)) sm ?_
   walk_at "dz"
   refine Zvj (by rw [hti, sizeLine_eq]; omega) ?_
   refine hN _ _ ⟨_, ?_, rfl⟩
   rw [Hw, hst, Gu, Q1, Q1]
   rfl
 ·rintro ds M1 ⟨v4, rfl, rfl⟩
  have e : sts.take (((sts.map Stg.text).map PV.str).map D.v).length = sts := by
   rw [Qb, Qb, Qb]
   exact Q8
  rw [e]
  walk_at "dz"
  refine ⟨_, Z0w, ?_⟩
  walk_at "dz"
  rw [Qv]
  exact Zhr hl (Z0m q)
local macro_rules | `(tactic| walk_at "fz") => `(tactic| repeat with_reducible refine Wg.go ?_)
local macro_rules | `(tactic| walk_at "fz") => `(tactic| repeat with_reducible refine Wg.go ?_)
local macro_rules | `(tactic| walk_at "fz") => `(tactic| repeat with_reducible refine Wg.go ?_)
local macro_rules | `(tactic| walk_at "fz") => `(tactic| repeat with_reducible refine Wg.go ?_)
local macro_rules | `(tactic| walk_at "fz") => `(tactic| repeat with_reducible refine Wg.go ?_)
theorem getA {α : Type} {M1 L : List α} {n : Nat} (h : M1.length = n) (k : Nat) : (M1 ++ L)[n + k]? = L[k]? := by
 subst h
 rw [Ho (Ls ..), Ly]
theorem setA {α : Type} {M1 L : List α} {n : Nat} (h : M1.length = n) (k : Nat) (y : α) : (M1 ++ L).set (n + k) y = M1 ++ L.set k y := by
 subst h
 rw [L8 _ _ (Ls ..), Ly]
local macro_rules | `(tactic| walk_at "fz") => `(tactic| repeat with_reducible refine Wg.go ?_)
theorem OkT.mono {ls f : List Nat} {rs : List (List Stp)} {es : List (Option (List Nat))} {b c : Nat} (ok : OkT ls f rs es b) (h : b ≤ c) : OkT ls f rs es c :=
 ⟨ok.ne, ok.le, Hb ok.fl h, ok.fw, ok.w, fun r hr p t ht => let ⟨a1, a2, a3, a4⟩ := ok.s r hr p t ht; ⟨a1, a2, a3, Hb a4 h⟩, fun t ht => let ⟨a1, a2⟩ := ok.e t ht; ⟨a1, Hb a2 h⟩⟩
theorem OkT.first {ls f g : List Nat} {rs : List (List Stp)} {es : List (Option (List Nat))} {b : Nat} (ok : OkT ls f rs es b) (h : isW ls g = true) (hl : g.length ≤ b) : OkT ls g rs es b := ⟨ok.ne, ok.le, hl, h, ok.w, ok.s, ok.e⟩
theorem Z2g {α β : Type} {f : α → β} {xs : List α} {k : Nat} {y : β} (h : (xs.map f)[k]? = some y) : ∃ x, xs[k]? = some x ∧ y = f x := by
 rw [Ql] at h
 cases e : xs[k]? with
 | none => rw [e] at h; cases h
 | some x => rw [e] at h; cases h; exact ⟨x, rfl, rfl⟩
section
variable {i : Nat} {ds : DSt} {M : Mem} {P : List PV → Mem → Prop} {te : DE} {tt : DT}
theorem Zsn {α : Type} (inj : α → D) (xs : List α) (keep : α → Bool) (f : α → PV) (hi : i < ds.length) (hl : xs.length ≤ sizeLine) (htt : ∀ x ∈ xs, ∀ QB : Bool → Mem → Prop, QB (keep x) M → tt (ds.set i (some (inj x))) M QB) (hte : ∀ x ∈ xs, keep x = true → ∀ Q : DQ, Q (.v (f x)) M → te (ds.set i (some (inj x))) M Q) (h : P ((xs.filter keep).map f) M) :
  Zdr (hName i) tt te ds P (xs.map inj) [] M := by
 refine Zrt (fun k acc M' => M' = M ∧ acc = ((xs.take k).filter keep).map f) ⟨rfl, rfl⟩ ?_ ?_
 ·rintro k y acc M' N hy ⟨rfl, rfl⟩ hN
  obtain ⟨x, hx, rfl⟩ := Z2g hy
  have hm := Qr hx
  have hk := (Qa.mp hx).1
  refine Zkr (htt x hm _ ?_)
  have tk : xs.take (k + 1) = xs.take k ++ [x] := by rw [Hw, hx]; rfl
  cases e : keep x with
  | true =>
   rw [if_pos rfl]
   refine hte x hm e _ ⟨f x, rfl, ?_, hN _ _ ⟨rfl, ?_⟩⟩
   ·rw [Qb]
    have := L7 keep (xs.take k)
    rw [Qw] at this
    omega
   ·rw [tk, Ll, Q1, List.filter_cons_of_pos e]; rfl
  | false =>
   rw [if_neg Lk]
   refine hN _ _ ⟨rfl, ?_⟩
   rw [tk, Ll, Q1, List.filter_cons_of_neg (by rw [e]; exact Lk)]
   simp
 ·rintro acc M' ⟨rfl, rfl⟩
  rw [Qb, Q8]
  exact h
theorem Zft {α : Type} (inj : α → D) (xs : List α) (f : α → PV) (hi : i < ds.length) (hl : xs.length ≤ sizeLine) (hte : ∀ x ∈ xs, ∀ Q : DQ, Q (.v (f x)) M → te (ds.set i (some (inj x))) M Q) (h : P (xs.map f) M) : Zdr (hName i) dYes te ds P (xs.map inj) [] M :=
 Zsn inj xs (fun _ => true) f hi hl (fun x _ QB q => Zu4 q) (fun x hx _ => hte x hx) (by rw [List.filter_eq_self.mpr fun _ _ => rfl]; exact h)
end
section
variable {S : Sc}
def Zop (k : Cn) (g : DSp) (Ed : DX) (f : DE) (a : DA) : DE := fun ds M Q => f ds M fun y M0 => y = .v (.cls k) ∧ Zjc k g [] Ed a ds M0 Q
theorem Zno {k : Cn} {g : DSp} {E : XK} {Ed : DX} {tf : TE} {df : DE} {tr : TA} {dr : DA} (hk : k ∈ S.cs) (px : PoX S S.c0 S.M0 Ed E) (hf : SimE S tf df) (ha : SimA S tr dr) : SimE S (Ze6 (ga S.K k.str) (fun vs => spD S.K S.cs g (vs ++ [])) E tf tr) (Zop k g Ed df dr) := fun c M σ ds Q Qd ok rs q po =>
 hf c M σ ds _ _ ok rs q fun c0 M0 v0 d0 s0 r0 p0 ⟨e0, q0⟩ => by
  subst e0
  exact ⟨p0, Zlg (dv := []) (vv := []) hk (fun _ => (rfl : ([] : List V) = [])) px ha c0 M0 σ ds _ _ (ok.step s0 r0) (rs.step s0) q0 (po.step s0)⟩
theorem Z14 {k : Cn} {g : DSp} {Ed : DX} {f : DE} {a : DA} {ds : DSt} {M : Mem} {Q : DQ} (h : f ds M fun y M0 => y = .v (.cls k) ∧ Zjc k g [] Ed a ds M0 Q) : Zop k g Ed f a ds M Q := h
instance {k : Cn} {g : DSp} {Ed : DX} {f : DE} {a : DA} {ds : DSt} {M : Mem} {Q : DQ} : Wg (Zop k g Ed f a ds M Q) (f ds M fun y M0 => y = .v (.cls k) ∧ Zjc k g [] Ed a ds M0 Q) := ⟨Z14⟩
end
def padR (n : Nat) (z : List Nat) : List Nat := z ++ List.replicate (n - z.length) 32
def padL (n : Nat) (z : List Nat) : List Nat := List.replicate (n - z.length) 32 ++ z
section
variable {S' : Sc}
def Z3g : DM := fun x xs M Q => ∃ (z : List Nat) (n : Nat), x = vS z ∧ xs = [vI n] ∧ PadOk (n : Int) = true ∧ Q (vS (padR n z)) M
def Z3f : DM := fun x xs M Q => ∃ (z : List Nat) (n : Nat), x = vS z ∧ xs = [vI n] ∧ PadOk (n : Int) = true ∧ Q (vS (padL n z)) M
end
section
variable {ds : DSt} {M : Mem} {Q : DQ} {a : DE}
theorem Zu9 {z : List Nat} {n : Nat} (hn : PadOk (n : Int) = true) (h : Q (vS (padR n z)) M) : Z3g (vS z) [vI n] M Q := ⟨z, n, rfl, rfl, hn, h⟩
theorem Zu7 {z : List Nat} {n : Nat} (hn : PadOk (n : Int) = true) (h : Q (vS (padL n z)) M) : Z3f (vS z) [vI n] M Q := ⟨z, n, rfl, rfl, hn, h⟩
end
end Cl
namespace Cl
open PySem PySem.Spec PyProof.Rows L2 He
def Zk4 (z : List Nat) (tl : TS) : List (List Nat × TS) → TS
 | [] => tl
 | (k, t) :: cs => fun D σ H => if z = k then t D σ H else Zk4 z tl cs D σ H
def Z3l (te : TE) (cs : List (List Nat × TS)) (tl : TS) : TS := fun D σ H => te σ H fun x H1 => ∃ z, x = sv z ∧ Zk4 z tl cs D σ H1
inductive PCs (X : Cx) : List MatchCase → List (List Nat × TS) → TS → Prop
 | last {body : List Stmt} {t : TS} {pos : Pos} : PSs X body t → PCs X [⟨.MatchAs none none pos, none, body⟩] [] t
 | cons {c : Str} {j : Nat} {cpos pos : Pos} {body : List Stmt} {t tl : TS} {rest : List MatchCase} {cs : List (List Nat × TS)} {k : List Nat} : PE X (.Constant (.str c) j cpos) (tC (sv k)) → PSs X body t → PCs X rest cs tl →
  PCs X (⟨.MatchValue (.Constant (.str c) j cpos) pos, none, body⟩ :: rest) ((k, t) :: cs) tl
end Cl
namespace Cl
open PySem PySem.Spec PyProof.Rows L2 He ClX
section
variable {S : Sc}
def Zrs (z : List Nat) (dl : DS) : List (List Nat × DS) → DS
 | [] => dl
 | (k, d) :: cs => fun E ds M => if z = k then d E ds M else Zrs z dl cs E ds M
def Z6n (a : DE) (cs : List (List Nat × DS)) (dl : DS) : DS := fun E ds M => a ds M fun x M1 => ∃ z, x = vS z ∧ Zrs z dl cs E ds M1
inductive Zqd (S : Sc) : List (List Nat × TS) → List (List Nat × DS) → Prop
 | nil : Zqd S [] []
 | cons {k : List Nat} {t : TS} {d : DS} {cs : List (List Nat × TS)} {ds : List (List Nat × DS)} : SimS S t d → Zqd S cs ds → Zqd S ((k, t) :: cs) ((k, d) :: ds)
theorem Zr6 {z : List Nat} {tl : TS} {dl : DS} {cs : List (List Nat × TS)} {dcs : List (List Nat × DS)} (h : Zqd S cs dcs) (hl : SimS S tl dl) : SimS S (Zk4 z tl cs) (Zrs z dl dcs) := by
 induction h with
 | nil => exact hl
 | @cons k t d cs ds hs _ ih =>
  intro c M σ dst E Ed ok rs q po
  show if z = k then t E σ c.H else Zk4 z tl cs E σ c.H
  have q' : if z = k then d Ed dst M else Zrs z dl ds Ed dst M := q
  by_cases e : z = k
  ·rw [if_pos e] at q' ⊢
   exact hs c M σ dst E Ed ok rs q' po
  ·rw [if_neg e] at q' ⊢
   exact ih c M σ dst E Ed ok rs q' po
theorem Ztr {te : TE} {de : DE} {tl : TS} {dl : DS} {cs : List (List Nat × TS)} {dcs : List (List Nat × DS)} (ha : SimE S te de) (h : Zqd S cs dcs) (hl : SimS S tl dl) : SimS S (Z3l te cs tl) (Z6n de dcs dl) := fun c M σ ds E Ed ok rs q po =>
 ha c M σ ds _ _ ok rs q fun c1 M1 v1 d1 s1 r1 p1 ⟨z, e, q1⟩ => by
  subst e
  cases (show v1 = sv z from p1)
  exact ⟨z, rfl, Zr6 h hl c1 M1 σ ds E Ed (ok.step s1 r1) (rs.step s1) q1 (po.step s1)⟩
def Z6l (o a : DE) (f : Fd) : DS := fun E ds M => o ds M fun x M1 => ∃ i k ys n, x = .cell i ∧ M1[i]? = some (some (.obj k ys)) ∧ ys[k.ix f]? = some (vI n) ∧ a ds M1 fun y M2 => ∃ j, y = vI j ∧ M2[i]? = some (some (.obj k ys)) ∧ E.nx ds (M2.set i (some (.obj k (ys.set (k.ix f) (vI (n + j))))))
def Zs6 : TS := fun _ _ _ => False
theorem Zko {X : Cx} {body : List Stmt} : PSs X body Zs6 := ⟨fun _ _ _ _ _ _ h => h.elim⟩
def Z2s : DS := fun _ _ _ => False
theorem Zr3 : SimS S Zs6 Z2s := fun _ _ _ _ _ _ _ _ q _ => q.elim
end
section
variable {ds : DSt} {M : Mem} {E : Zd8} {a o : DE} {cs : List (List Nat × DS)} {dl : DS} {f : Fd} {r : DA} {Q : DQ} {k : Cn} {g : DSp} {dv : List PV} {Ed : DX}
theorem Z5a (h : o ds M fun x M1 => ∃ i k ys n, x = .cell i ∧ M1[i]? = some (some (.obj k ys)) ∧ ys[k.ix f]? = some (vI n) ∧ a ds M1 fun y M2 => ∃ j, y = vI j ∧ M2[i]? = some (some (.obj k ys)) ∧ E.nx ds (M2.set i (some (.obj k (ys.set (k.ix f) (vI (n + j))))))) : Z6l o a f E ds M := h
end
local macro_rules | `(tactic| walk_at "zv") => `(tactic| first | (dsimp only [Hk, Hq, Hf, Hg]; done) | (with_unfolding_all exact rfl))
local macro_rules | `(tactic| walk_at "sz") => `(tactic| (rw [sizeLine_eq]; (try simp only [Qc, Qe, Qm, Qb, Qo]); omega))
local macro_rules | `(tactic| walk_at "fz") => `(tactic| repeat with_reducible refine Wg.go ?_)
local macro_rules | `(tactic| walk_at "dw") => `(tactic| skip)
local macro_rules | `(tactic| walk_at "dx") => `(tactic| skip)
local macro_rules | `(tactic| walk_at "ds") => `(tactic| (walk_at "fz"; walk_at "dw"))
local macro_rules | `(tactic| walk_at "dz") => `(tactic| (walk_at "ds"; walk_at "dx"))
local macro_rules | `(tactic| walk_at "dx") => `(tactic| (((first | with_reducible refine z_eq ?_ | with_reducible refine Z0e ?_ | with_reducible refine z_F (c := isNon (.v _)) (by with_unfolding_all exact rfl) ?_ | with_reducible refine z_nF (c := isNon (.v _)) (by with_unfolding_all exact rfl) ?_ | with_reducible refine z_T (c := isNon (.v _)) (by with_unfolding_all exact rfl) ?_ | with_reducible refine z_nT (c := isNon (.v _)) (by with_unfolding_all exact rfl) ?_ | with_reducible refine z_F (by decide) ?_ | with_reducible refine z_T (by decide) ?_ | with_reducible refine z_nF (by decide) ?_ | with_reducible refine z_nT (by decide) ?_ | fail); walk_at "ds"); walk_at "dx"))
local macro_rules | `(tactic| walk_at "dw") => `(tactic| (((first | with_reducible refine Zsh (by first | (dsimp only [Hk, Hq, Hf, Hg]; done) | (with_unfolding_all exact rfl)) ?_ | with_reducible refine Zvf (by with_unfolding_all exact rfl) ?_ | with_reducible refine k_pu (by with_unfolding_all exact rfl) (by (rw [sizeLine_eq]; (try simp only [Qc, Qe, Qm, Qb, Qo]); omega)) ?_ | with_reducible refine iteT ?_ | with_reducible refine k_eq (by with_unfolding_all exact rfl) ?_ | with_reducible refine iteF ?_ | with_reducible refine k_sz (by (rw [sizeLine_eq]; (try simp only [Qc, Qe, Qm, Qb, Qo]); omega)) ?_ | with_reducible refine k_ne (by with_unfolding_all exact rfl) ?_ | with_reducible refine Zrb (by (rw [sizeLine_eq]; (try simp only [Qc, Qe, Qm, Qb, Qo]); omega)) ?_ | with_reducible refine Zod (by (rw [sizeLine_eq]; (try simp only [Qc, Qe, Qm, Qb, Qo]); omega)) ?_ | with_reducible refine Zre _ ?_ | with_reducible refine Zrd (by rfl) ?_ | with_reducible refine Ziz (by with_unfolding_all exact rfl) ?_ | with_reducible refine Zxt (by (rw [sizeLine_eq]; (try simp only [Qc, Qe, Qm, Qb, Qo]); omega)) ?_ | fail); walk_at "fz"); walk_at "dw"))
local macro_rules | `(tactic| walk_at "dx") => `(tactic| (((first | with_reducible refine Zve ?_ | with_reducible refine Zvd ?_ | with_reducible refine Zvc ?_ | with_reducible refine Zvb ?_ | with_reducible refine Z0g (by first | omega | (simp; done) | (simp; omega)) ?_ | with_reducible refine Z0f (by first | omega | (simp; done) | (simp; omega)) ?_ | with_reducible refine Zst (by first | omega | (simp; done) | (simp; omega)) ?_ | with_reducible refine Zss (by first | omega | (simp; done) | (simp; omega)) ?_ | with_reducible refine Z0i (by first | omega | (simp; done) | (simp; omega)) ?_ | with_reducible refine Z0h (by first | omega | (simp; done) | (simp; omega)) ?_ | fail); walk_at "ds"); walk_at "dx"))
local macro_rules | `(tactic| walk_at "dw") => `(tactic| (((first | with_reducible refine k_fo (by with_unfolding_all exact rfl) ?_ | fail); walk_at "fz"); walk_at "dw"))
local macro_rules | `(tactic| walk_at "fz") => `(tactic| repeat with_reducible refine Wg.go ?_)
local macro_rules | `(tactic| walk_at "fz") => `(tactic| repeat with_reducible refine Wg.go ?_)
local macro_rules | `(tactic| walk_at "fz") => `(tactic| repeat with_reducible refine Wg.go ?_)
def stp (R : List (List Int)) (p a : Nat) : Int := (R.getD p []).getD a (-1)
def lng (R : List (List Int)) (G : List Bool) : Nat → List Nat → Bool
 | p, [] => G.getD p false
 | p, a :: y => if 0 ≤ stp R p a then lng R G (stp R p a).toNat y else false
def inW (w : Nat) (y : List Nat) : Prop := ∀ a ∈ y, a < w
theorem getD_mem {α : Type} {l : List α} {i : Nat} (h : i < l.length) (d : α) : l.getD i d ∈ l := by
 rw [Qi, Qf h]; exact H5 h
theorem getD_some {α : Type} {l : List α} {i : Nat} {x : α} (h : l[i]? = some x) (d : α) : l.getD i d = x := by rw [Qi, h]; rfl
structure Tab (w : Nat) (R : List (List Int)) : Prop where
 ne : R ≠ []
 wid : ∀ r ∈ R, r.length = w
 ok : Z1q R.length R
theorem Tab.row {w : Nat} {R : List (List Int)} (t : Tab w R) {p : Nat} (h : p < R.length) : (R.getD p []).length = w := t.wid _ (getD_mem h _)
theorem Tab.mem {w : Nat} {R : List (List Int)} (t : Tab w R) {p a : Nat} (h : p < R.length) (ha : a < w) : stp R p a ∈ R.getD p [] := getD_mem (by rw [t.row h]; exact ha) _
theorem Tab.lt {w : Nat} {R : List (List Int)} (t : Tab w R) {p a : Nat} (h : p < R.length) (ha : a < w) : -1 ≤ stp R p a ∧ stp R p a < R.length := t.ok _ (getD_mem h _) _ (t.mem h ha)
theorem Tab.pos {w : Nat} {R : List (List Int)} (t : Tab w R) : 0 < R.length := Lh.mpr t.ne
structure Canon (w : Nat) (R : List (List Int)) (G : List Bool) : Prop where
 tab : Tab w R
 len : R.length = G.length
 use : ∀ i, i < R.length → ∃ y, inW w y ∧ lng R G i y = true
 dif : ∀ i j, i < R.length → j < R.length → (∀ y, inW w y → lng R G i y = lng R G j y) → i = j
 num : Zq2 R = List.range R.length
structure Tri (w : Nat) (R : List (List Int)) (G : List Bool) (nm : List (List Nat)) (W : List Nat → Prop) : Prop where
 tab : Tab w R
 len : R.length = G.length
 nml : nm.length = R.length
 root : nm[0]? = some []
 nd : nm.Nodup
 step : ∀ p a x, nm[p]? = some x → a < w → (stp R p a < 0 ∧ x ++ [a] ∉ nm) ∨ (0 ≤ stp R p a ∧ nm[(stp R p a).toNat]? = some (x ++ [a]))
 pref : ∀ x a, x ++ [a] ∈ nm → x ∈ nm
 good : ∀ p x, nm[p]? = some x → (G.getD p false = true ↔ W x)
 wn : ∀ x, W x → x ∈ nm
theorem Tri.at {w : Nat} {R : List (List Int)} {G : List Bool} {nm : List (List Nat)} {W : List Nat → Prop} (t : Tri w R G nm W) {p : Nat} {x : List Nat} (h : nm[p]? = some x) : p < R.length := by
 rw [← t.nml]; exact (Qa.mp h).1
def ixW (ls z : List Nat) : List Nat := z.map ((45 :: ls).idxOf ·)
theorem Z55 {ls : List Nat} (nd : (45 :: ls).Nodup) {y : List Nat} (h : inW (ls.length + 1) y) : ∃ z, isW ls z = true ∧ ixW ls z = y := by
 refine ⟨y.map fun a => (45 :: ls).getD a 0, Zpz.mpr fun c hc => ?_, ?_⟩
 ·obtain ⟨a, ha, rfl⟩ := Qs.mp hc
  exact getD_mem (h a ha) 0
 ·unfold ixW
  rw [Qk]
  conv => rhs; rw [← L4 y]
  refine List.map_congr_left fun a ha => ?_
  have hl := h a ha
  show (45 :: ls).idxOf ((45 :: ls).getD a 0) = a
  rw [Qi, Qf hl]
  exact nd.idxOf_getElem a hl
structure Stk (ls : List Nat) (R : List (List Int)) (G : List Bool) (W : List Nat → Prop) : Prop where
 tab : Tab (ls.length + 1) R
 len : R.length = G.length
 lang : ∀ z, isW ls z = true → (lng R G 0 (ixW ls z) = true ↔ W z)
 use : (∀ i, i < R.length → ∃ y, inW (ls.length + 1) y ∧ lng R G i y = true) ∨ (R = [List.replicate (ls.length + 1) (-1)] ∧ G = [false])
 le : R.length ≤ 100000
 can : (R = [List.replicate (ls.length + 1) (-1)] ∧ G = [false]) ∨ Canon (ls.length + 1) R G
section
variable {ls : List Nat} {R : List (List Int)} {G : List Bool} {W : List Nat → Prop}
theorem Zuw {R : List (List Int)} {G : List Bool} : ∀ (y : List Nat) (p : Nat), lng R G p y = true → G.any id = true
 | [], p, h => by
  unfold lng at h
  by_cases hp : p < G.length
  ·exact Lr.mpr ⟨_, getD_mem hp false, h⟩
  ·rw [Qi, Hj (by omega)] at h
   cases h
 | a :: y, p, h => by
  unfold lng at h
  split at h
  ·exact Zuw y _ h
  ·cases h
theorem Stk.any (s : Stk ls R G W) (nd : (45 :: ls).Nodup) : G.any id = true ↔ ∃ z, isW ls z = true ∧ W z := by
 constructor
 ·intro h
  rcases s.use with hu | ⟨_, hG⟩
  ·obtain ⟨y, hy, hy2⟩ := hu 0 s.tab.pos
   obtain ⟨y', h1, rfl⟩ := Z55 nd hy
   exact ⟨y', h1, (s.lang y' h1).mp hy2⟩
  ·rw [hG] at h; cases h
 ·rintro ⟨z, hz, hw⟩
  exact Zuw _ 0 ((s.lang z hz).mpr hw)
end
structure RdS where
 at_ : Nat
 atoms : List (List Nat)
 fol : List (List Nat)
abbrev natP (xs : List Nat) : PV := .lst (xs.map fun (n : Nat) => PV.int n)
def rdM (M0 : Mem) (al : PV) (z : List Nat) (s : RdS) : Mem := M0 ++ [some (.obj .ShapeReader [.v al, vS z, vI s.at_, .cell (M0.length + 1), .cell (M0.length + 2)]), some (.lst (s.atoms.map vS)), some (.lst (s.fol.map fun f => D.v (natP f)))]
def sgAt (z : List Nat) (i : Nat) : List Nat := match z[i]? with
 | some c => [c]
 | none => []
def Ztz (ls vw : List Nat) (y : List Nat) : Option (List Nat) :=
 if y = [67] then some (cons ls vw) else if y = [86] then some vw else if y = [76] then some ls else if y = [74] then some [45] else if y = [83] then some (45 :: ls) else
 match y with
 | [c] => if c ∈ 45 :: ls then some [c] else none
 | _ => none
def srtN (l : List Nat) : List Nat := (List.range 64).filter fun c => decide (c ∈ l)
def con1 (f : List (List Nat)) (n : Nat) (firsts : List Nat) : List (List Nat) := f.set n (srtN (f.getD n [] ++ firsts))
def conF (fol : List (List Nat)) (lasts firsts : List Nat) : List (List Nat) := lasts.foldl (fun f n => con1 f n firsts) fol
inductive Out where
 | ok (e : Bool) (f l : List Nat) (s : RdS)
 | err (p : Nat)
section
variable (ls vw z : List Nat)
def Zym (al : Bool) (sub : RdS → Out) (s : RdS) : Out :=
 if z[s.at_]? = some 40 ∧ al = true then
  match sub { s with at_ := s.at_ + 1 } with
  | .err p => .err p
  | .ok e f l s' => if z[s'.at_]? = some 41 then .ok e f l { s' with at_ := s'.at_ + 1 } else .err s'.at_
 else match Ztz ls vw (sgAt z s.at_) with
  | none => .err s.at_
  | some t => if s.atoms.length = 10 then .err s.at_ else .ok false [s.atoms.length] [s.atoms.length] ⟨s.at_ + 1, s.atoms ++ [t], s.fol ++ [[]]⟩
def itemF (atom : RdS → Out) (s : RdS) : Out :=
 match atom s with
 | .err p => .err p
 | .ok e f l s' =>
  if z[s'.at_]? = some 63 then .ok true f l { s' with at_ := s'.at_ + 1 }
  else if z[s'.at_]? = some 42 then .ok true f l ⟨s'.at_ + 1, s'.atoms, conF s'.fol l f⟩
  else if z[s'.at_]? = some 43 then .ok e f l ⟨s'.at_ + 1, s'.atoms, conF s'.fol l f⟩
  else .ok e f l s'
def Z2z (i : Nat) : Prop := z[i]? = none ∨ z[i]? = some 124 ∨ z[i]? = some 41
instance (i : Nat) : Decidable (Z2z z i) := by unfold Z2z; infer_instance
def Zp9 (item : RdS → Out) : Nat → Bool → List Nat → List Nat → RdS → Out
 | 0, e, f, l, s => .ok e f l s
 | n + 1, e, f, l, s => if Z2z z s.at_ then .ok e f l s else
  match item s with
  | .err p => .err p
  | .ok e' f' l' s' => Zp9 item n (e && e') (if e then f ++ f' else f) (if e' then l ++ l' else l') ⟨s'.at_, s'.atoms, conF s'.fol l f'⟩
def Zqa (item : RdS → Out) (s : RdS) : Out :=
 match item s with
 | .err p => .err p
 | .ok e f l s' => Zp9 z item (z.length + 1) e f l s'
def Zt0 (branch : RdS → Out) : Nat → Bool → List Nat → List Nat → RdS → Out
 | 0, e, f, l, s => .ok e f l s
 | n + 1, e, f, l, s => if z[s.at_]? = some 124 then
  match branch { s with at_ := s.at_ + 1 } with
  | .err p => .err p
  | .ok e' f' l' s' => Zt0 branch n (e || e') (f ++ f') (l ++ l') s'
  else .ok e f l s
def Zy9 (branch : RdS → Out) (s : RdS) : Out :=
 match branch s with
 | .err p => .err p
 | .ok e f l s' => Zt0 z branch (z.length + 1) e f l s'
def Zt1 : Nat → RdS → Out
 | 0 => Zy9 z (Zqa z (itemF z (Zym ls vw z false fun _ => .err 0)))
 | k + 1 => Zy9 z (Zqa z (itemF z (Zym ls vw z true (Zt1 k))))
def Z6v : Nat → RdS → Out
 | 0 => Zym ls vw z false fun _ => .err 0
 | k + 1 => Zym ls vw z true (Zt1 ls vw z k)
def Z2c (k : Nat) : RdS → Out := itemF z (Z6v ls vw z k)
def Zwc (k : Nat) : RdS → Out := Zqa z (Z2c ls vw z k)
end
structure RdG (z : List Nat) (s : RdS) : Prop where
 a : s.at_ ≤ z.length
 l : s.fol.length = s.atoms.length
 t : s.atoms.length ≤ 10
 w : ∀ y ∈ s.atoms, y.length ≤ 100
 f : ∀ f ∈ s.fol, f.length ≤ 20 ∧ ∀ n ∈ f, n < s.atoms.length
structure OkO (z : List Nat) (s : RdS) (f l : List Nat) (s' : RdS) : Prop where
 g : RdG z s'
 m : s.at_ < s'.at_
 d : s.atoms.length ≤ s'.atoms.length
 fl : f.length + s.atoms.length ≤ s'.atoms.length
 ll : l.length + s.atoms.length ≤ s'.atoms.length
 fm : ∀ n ∈ f, n < s'.atoms.length
 lm : ∀ n ∈ l, n < s'.atoms.length
section
variable {M0 : Mem} {al : PV} {z : List Nat} {s : RdS}
theorem rd_o : (rdM M0 al z s)[M0.length]? = some (some (.obj .ShapeReader [.v al, vS z, vI s.at_, .cell (M0.length + 1), .cell (M0.length + 2)])) := (getA rfl 0).trans rfl
theorem Z70 (n : Nat) : (rdM M0 al z s).set M0.length (some (.obj .ShapeReader [.v al, vS z, vI n, .cell (M0.length + 1), .cell (M0.length + 2)])) = rdM M0 al z ⟨n, s.atoms, s.fol⟩ := setA rfl 0 _
theorem Z71 : obOf (rdM M0 al z s) (.cell M0.length) = some (.ShapeReader, [.v al, vS z, vI s.at_, .cell (M0.length + 1), .cell (M0.length + 2)]) := by
 unfold obOf
 dsimp only
 rw [rd_o]
theorem k_rd {f : Fd} {y : D} {p : D → Prop} (e2 : [D.v al, vS z, vI s.at_, .cell (M0.length + 1), .cell (M0.length + 2)][Cn.ShapeReader.ix f]? = some y) (h : p y) : ∃ k ys y, obOf (rdM M0 al z s) (.cell M0.length) = some (k, ys) ∧ ys[k.ix f]? = some y ∧ p y := ⟨_, _, _, Z71, e2, h⟩
theorem Zzp {ds : DSt} {E : Zd8} (e : ds[0]? = some (some (.cell M0.length))) (h : E.nx ds (rdM M0 al z ⟨s.at_ + 1, s.atoms, s.fol⟩)) : Z6l (dVar 0) (dC (.int 1)) .at_ E ds (rdM M0 al z s) := by
 refine Z5a (Zsh e ⟨_, _, _, s.at_, rfl, rd_o, rfl, k_c ⟨1, rfl, rd_o, ?_⟩⟩)
 have : (rdM M0 al z s).set M0.length (some (.obj .ShapeReader ([D.v al, vS z, vI s.at_, .cell (M0.length + 1), .cell (M0.length + 2)].set (Cn.ShapeReader.ix .at_) (vI ((s.at_ : Int) + 1))))) = rdM M0 al z ⟨s.at_ + 1, s.atoms, s.fol⟩ := Z70 (s.at_ + 1)
 rw [this]
 exact h
end
abbrev nI (k : List Nat) : List Int := k.map fun (n : Nat) => (n : Int)
def Z8a (f : List Nat) (fol : List (List Nat)) (o : List Int) : List Nat := o.flatMap fun n => if n < 0 then f else fol.getD n.toNat []
def rchK (atoms fol : List (List Nat)) (f : List Nat) (o : List Int) (c : Nat) : List Nat := srtN ((Z8a f fol o).filter fun n => decide (c ∈ atoms.getD n []))
def StOk (O : List (List Int)) (k : List Nat) (st : Int) : Prop := (k = [] ∧ st = -1) ∨ (k ≠ [] ∧ ∃ j : Nat, st = j ∧ O[j]? = some (nI k))
def Zwr (n : Nat) (o : List Int) : Prop := o = [-1] ∨ ∃ k : List Nat, k ≠ [] ∧ o = nI k ∧ k.Pairwise (· < ·) ∧ ∀ m ∈ k, m < n
def Zwo (ls : List Nat) (s : RdS) (f : List Nat) (O : List (List Int)) (o r : List Int) : Prop := r.length = ls.length + 1 ∧ ∀ (a c : Nat), (45 :: ls)[a]? = some c → ∃ st, r[a]? = some st ∧ StOk O (rchK s.atoms s.fol f o c) st
def gdK (e : Bool) (l : List Nat) (o : List Int) : Bool := if o = [-1] then e else o.any fun n => decide (n ∈ nI l)
structure SubI (ls : List Nat) (s : RdS) (e : Bool) (f l : List Nat) (O R : List (List Int)) (G : List Bool) : Prop where
 hd : O[0]? = some [-1]
 nd : O.Nodup
 lg : G.length = R.length
 le : R.length ≤ O.length
 key : ∀ o ∈ O, Zwr s.atoms.length o
 row : ∀ (i : Nat) (o r : List Int), O[i]? = some o → R[i]? = some r → Zwo ls s f O o r
 good : ∀ (i : Nat) (o : List Int) (g : Bool), O[i]? = some o → G[i]? = some g → g = gdK e l o
theorem StOk.mono {O O' : List (List Int)} (p : O <+: O') {k : List Nat} {st : Int} (h : StOk O k st) : StOk O' k st := h.imp id fun ⟨h1, j, h2, h3⟩ => ⟨h1, j, h2, Zey p h3⟩
theorem Zwo.mono {ls : List Nat} {s : RdS} {f : List Nat} {O O' : List (List Int)} (p : O <+: O') {o r : List Int} (h : Zwo ls s f O o r) : Zwo ls s f O' o r := ⟨h.1, fun a c e => let ⟨st, h1, h2⟩ := h.2 a c e; ⟨st, h1, h2.mono p⟩⟩
local macro_rules | `(tactic| walk_at "fz") => `(tactic| repeat with_reducible refine Wg.go ?_)
theorem SubI.tab {ls : List Nat} {s : RdS} {e : Bool} {f l : List Nat} {O R : List (List Int)} {G : List Bool} (h : SubI ls s e f l O R G) (hl : R.length = O.length) : Tab (ls.length + 1) R := by
 have row : ∀ r ∈ R, ∃ o, Zwo ls s f O o r := fun r hr => by
  obtain ⟨i, hi, e⟩ := G9.mp hr
  have hi' : i < O.length := hl ▸ hi
  exact ⟨O[i], h.row i _ _ (Qf hi') (by rw [Qf hi, e])⟩
 refine ⟨?_, ?_, ?_⟩
 ·intro e
  have h0 := h.hd
  rw [e] at hl
  have : O = [] := Ga.mp hl.symm
  rw [this] at h0
  cases h0
 ·intro r hr
  obtain ⟨o, ho⟩ := row r hr
  exact ho.1
 ·intro r hr st hst
  obtain ⟨o, h1, h2⟩ := row r hr
  obtain ⟨a, ha, e⟩ := G9.mp hst
  have ha' : a < (45 :: ls).length := by rw [Qe]; omega
  obtain ⟨st', h3, h4⟩ := h2 a _ (Qf ha')
  rw [Qf ha, e] at h3
  cases h3
  rcases h4 with ⟨_, rfl⟩ | ⟨_, j, rfl, hj⟩
  ·omega
  ·have := (Qa.mp hj).1
   omega
abbrev tupI (o : List Int) : PV := .tup (o.map PV.int)
section
variable {S : Sc} {w : World}
def Z65 : DR2 := fun x y M Q => ∃ ys zs, lsOf M x = some ys ∧ lsOf M y = some zs ∧ ys.length + zs.length ≤ sizeLine ∧ Q (.cell M.length) (M ++ [some (.lst (ys ++ zs))])
theorem Z06 : SimO S zAdd Z65 := fun c M x y dx dy Q Qd ok rx ry ⟨ys, zs, e1, e2, hl, q⟩ po => by
 obtain ⟨a, vs, rfl, h1, r1⟩ := Zse ok rx e1
 obtain ⟨b, us, rfl, h2, r2⟩ := Zse ok ry e2
 exact ⟨vs, us, h1, h2, by rw [← r1.len, ← r2.len]; exact hl, fun p hp => Zl8 ok po hp (r1.append r2) q⟩
end
abbrev Zwj (ls : List Nat) : List Nat := [67, 86, 76, 74, 83, 45] ++ ls
section
variable {ls vw z : List Nat}
theorem Z1b {c : Nat} : (Ztz ls vw [c]).isSome = true ↔ c ∈ Zwj ls := by
 unfold Ztz
 simp only [List.cons.injEq, and_true]
 split
 ·rename_i h; simp [h]
 split
 ·rename_i h; simp [h]
 split
 ·rename_i h; simp [h]
 split
 ·rename_i h; simp [h]
 split
 ·rename_i h; simp [h]
 split
 ·rename_i h; simp only [Option.isSome_some, true_iff]; rcases Qg.mp h with h | h
  ·simp [h]
  ·simp [h]
 ·rename_i h1 h2 h3 h4 h5 h
  simp only [Qg, not_or] at h
  simp [h1, h2, h3, h4, h5, h.1, h.2]
end
structure It where
 grp : Bool
 brs : List (List Nat)
 mark : List Nat
def It.pv (t : It) : PV := .tup [.bl t.grp, .lst (t.brs.map PV.str), .str t.mark]
abbrev itsP (ts : List It) : PV := .lst (ts.map It.pv)
structure OkIt (ls : List Nat) (t : It) : Prop where
 mrk : t.mark ∈ ([[], [63], [42], [43]] : List (List Nat))
 ne : t.brs ≠ []
 two : t.brs.length ≤ 2
 br : ∀ b ∈ t.brs, b ≠ [] ∧ b.length ≤ 2 ∧ ∀ c ∈ b, c ∈ Zwj ls
 one : t.grp = false → ∃ c, t.brs = [[c]]
structure Z9k (ls : List Nat) (n g : Nat) (ts : List It) : Prop where
 ne : ts ≠ []
 le : ts.length ≤ n
 it : ∀ t ∈ ts, OkIt ls t
 gr : ∀ (k : Nat) (t : It), ts[k]? = some t → g ≤ k → t.grp = false
def sgsA (ls vw : List Nat) (c : Nat) : List Nat := (Ztz ls vw [c]).getD []
abbrev Cu := Nat × Nat × Nat
abbrev cuI (x : Cu) : List Int := [(x.1 : Int), (x.2.1 : Int), (x.2.2 : Int)]
abbrev cuP (x : Cu) : PV := tupI (cuI x)
def hops (t : It) : Bool := decide (t.mark ∈ ([[63], [42]] : List (List Nat)))
def loops (t : It) : Bool := decide (t.mark ∈ ([[42], [43]] : List (List Nat)))
def brC (k : Nat) (t : It) : List Cu := (List.range t.brs.length).map fun b => (k, b, 0)
def befL : List It → Nat → List Cu
 | [], k => [(k, 0, 0)]
 | t :: r, k => brC k t ++ if hops t = true then befL r (k + 1) else []
def bef (ts : List It) (k : Nat) : List Cu := befL (ts.drop k) k
def Zw0 (ls vw : List Nat) (ts : List It) (c : Nat) (x : Cu) : List Cu := match ts[x.1]? with
 | none => []
 | some t => let br := t.brs.getD x.2.1 []
  if c ∈ sgsA ls vw (br.getD x.2.2 0) then
   if x.2.2 + 1 < br.length then [(x.1, x.2.1, x.2.2 + 1)] else bef ts (x.1 + 1) ++ if loops t = true then brC x.1 t else []
  else []
def Zyu (ls vw : List Nat) (ts : List It) (cs : List Cu) (c : Nat) : List Cu := cs.flatMap (Zw0 ls vw ts c)
def CuOk (ts : List It) (x : Cu) : Prop := (x = (ts.length, 0, 0)) ∨ ∃ t, ts[x.1]? = some t ∧ ∃ br, t.brs[x.2.1]? = some br ∧ x.2.2 < br.length
def gaP (atoms fol : List (List Nat)) (l : List Nat) : Nat → List Nat → Prop
 | n, [] => n ∈ l
 | n, c :: z => ∃ m ∈ fol.getD n [], c ∈ atoms.getD m [] ∧ gaP atoms fol l m z
def gluP (atoms fol : List (List Nat)) (e : Bool) (f l : List Nat) : List Nat → Prop
 | [] => e = true
 | c :: z => ∃ m ∈ f, c ∈ atoms.getD m [] ∧ gaP atoms fol l m z
abbrev Wd := List Nat → Prop
def catW (A B : Wd) : Wd := fun w => ∃ u v, w = u ++ v ∧ A u ∧ B v
def altW (A B : Wd) : Wd := fun w => A w ∨ B w
def optW (A : Wd) : Wd := fun w => w = [] ∨ A w
inductive Zka (A : Wd) : Wd
 | one {w : List Nat} : A w → Zka A w
 | more {u v : List Nat} : A u → Zka A v → Zka A (u ++ v)
inductive Kd4 where
 | atom | item | branch | shape
inductive PT (ls vw : List Nat) : Kd4 → Nat → List Nat → Nat → Wd → Prop
 | sign {k c : Nat} {t : List Nat} : Ztz ls vw [c] = some t → PT ls vw .atom k [c] 1 (fun w => ∃ d ∈ t, w = [d])
 | group {k n : Nat} {z : List Nat} {L : Wd} : PT ls vw .shape k z n L → PT ls vw .atom (k + 1) (40 :: (z ++ [41])) n L
 | bare {k n : Nat} {z : List Nat} {L : Wd} : PT ls vw .atom k z n L → PT ls vw .item k z n L
 | opt {k n : Nat} {z : List Nat} {L : Wd} : PT ls vw .atom k z n L → PT ls vw .item k (z ++ [63]) n (optW L)
 | star {k n : Nat} {z : List Nat} {L : Wd} : PT ls vw .atom k z n L → PT ls vw .item k (z ++ [42]) n (optW (Zka L))
 | plus {k n : Nat} {z : List Nat} {L : Wd} : PT ls vw .atom k z n L → PT ls vw .item k (z ++ [43]) n (Zka L)
 | one {k n : Nat} {z : List Nat} {L : Wd} : PT ls vw .item k z n L → PT ls vw .branch k z n L
 | cat {k n n' : Nat} {z z' : List Nat} {L L' : Wd} : PT ls vw .branch k z n L → PT ls vw .item k z' n' L' → PT ls vw .branch k (z ++ z') (n + n') (catW L L')
 | br {k n : Nat} {z : List Nat} {L : Wd} : PT ls vw .branch k z n L → PT ls vw .shape k z n L
 | alt {k n n' : Nat} {z z' : List Nat} {L L' : Wd} : PT ls vw .shape k z n L → PT ls vw .branch k z' n' L' → PT ls vw .shape k (z ++ 124 :: z') (n + n') (altW L L')
section
variable {ls vw : List Nat}
theorem PT.head {κ : Kd4} {k n : Nat} {z : List Nat} {L : Wd} (h : PT ls vw κ k z n L) : ∃ c r, z = c :: r ∧ (c = 40 ∨ c ∈ Zwj ls) := by
 induction h with
 | sign h => exact ⟨_, _, rfl, Or.inr (Z1b.mp (by rw [h]; rfl))⟩
 | group _ _ => exact ⟨_, _, rfl, Or.inl rfl⟩
 | bare _ ih | one _ ih | br _ ih => exact ih
 | opt _ ih | star _ ih | plus _ ih | cat _ _ ih _ | alt _ _ ih _ => obtain ⟨c, r, rfl, h⟩ := ih; exact ⟨c, _, rfl, h⟩
structure Gl (s s' : RdS) (e : Bool) (f l : List Nat) (L : Wd) : Prop where
 pa : s.atoms <+: s'.atoms
 old : ∀ i, i < s.atoms.length → s'.fol.getD i [] = s.fol.getD i []
 cl : ∀ i, s.atoms.length ≤ i → ∀ m ∈ s'.fol.getD i [], s.atoms.length ≤ m
 fr : ∀ m ∈ f, s.atoms.length ≤ m
 lr : ∀ m ∈ l, s.atoms.length ≤ m
 lang : ∀ w, gluP s'.atoms s'.fol e f l w ↔ L w
def Z0c (rest : List Nat) : Prop := ∀ c ∈ ([63, 42, 43] : List Nat), rest[0]? ≠ some c
def Ends (rest : List Nat) : Prop := rest[0]? = none ∨ rest[0]? = some 124 ∨ rest[0]? = some 41
def Takes (ls vw : List Nat) : Kd4 → Nat → List Nat → Nat → Wd → Prop
 | .atom, k, z, n, L => ∀ (src rest : List Nat) (s : RdS), RdG src s → src.drop s.at_ = z ++ rest → s.atoms.length + n ≤ 10 → ∃ e f l s', Z6v ls vw src k s = .ok e f l s' ∧ s'.at_ = s.at_ + z.length ∧ s'.atoms.length = s.atoms.length + n ∧ Gl s s' e f l L
 | .item, k, z, n, L => ∀ (src rest : List Nat) (s : RdS), RdG src s → src.drop s.at_ = z ++ rest → s.atoms.length + n ≤ 10 → Z0c rest → ∃ e f l s', Z2c ls vw src k s = .ok e f l s' ∧ s'.at_ = s.at_ + z.length ∧ s'.atoms.length = s.atoms.length + n ∧ Gl s s' e f l L
 | .branch, k, z, n, L => ∀ (src rest : List Nat) (s : RdS), RdG src s → src.drop s.at_ = z ++ rest → s.atoms.length + n ≤ 10 → Z0c rest → ∃ m e f l s', Zwc ls vw src k s = Zp9 src (Z2c ls vw src k) m e f l s' ∧ src.length < m + s'.at_ ∧ OkO src s f l s' ∧ s'.at_ = s.at_ + z.length ∧ s'.atoms.length = s.atoms.length + n ∧ Gl s s' e f l L
 | .shape, k, z, n, L => ∀ (src rest : List Nat) (s : RdS), RdG src s → src.drop s.at_ = z ++ rest → s.atoms.length + n ≤ 10 → Ends rest → ∃ m e f l s', Zt1 ls vw src k s = Zt0 src (Zwc ls vw src k) m e f l s' ∧ src.length < m + s'.at_ ∧ OkO src s f l s' ∧ s'.at_ = s.at_ + z.length ∧ s'.atoms.length = s.atoms.length + n ∧ Gl s s' e f l L
theorem RdG.mem {src : List Nat} {s : RdS} (g : RdG src s) {i m : Nat} (h : m ∈ s.fol.getD i []) : m < s.atoms.length := by
 rw [Qi] at h
 cases e : s.fol[i]? with
 | none => rw [e] at h; simp at h
 | some y => rw [e] at h; exact (g.f y (Qr e)).2 m h
end
theorem Stk.mono {ls : List Nat} {R : List (List Int)} {G : List Bool} {A B : List Nat → Prop} (s : Stk ls R G A) (h : ∀ w, A w ↔ B w) : Stk ls R G B := ⟨s.tab, s.len, fun z hz => (s.lang z hz).trans (h z), s.use, s.le, s.can⟩
theorem Zsv {A B : Wd} (h : ∀ w, A w ↔ B w) : A = B := funext fun w => propext (h w)
theorem Zgl (A B C : Wd) : catW (catW A B) C = catW A (catW B C) := Zsv fun w => by
 constructor
 ·rintro ⟨u, v, rfl, ⟨u1, u2, rfl, h1, h2⟩, h3⟩
  exact ⟨u1, u2 ++ v, Hi .., h1, u2, v, rfl, h2, h3⟩
 ·rintro ⟨u, v, rfl, h1, v1, v2, rfl, h2, h3⟩
  exact ⟨u ++ v1, v2, (Hi ..).symm, ⟨u, v1, rfl, h1, h2⟩, h3⟩
abbrev nilW : Wd := fun w => w = []
theorem Zru (A : Wd) : catW A nilW = A := Zsv fun w => by
 constructor
 ·rintro ⟨u, v, rfl, h1, h2⟩
  rw [show v = [] from h2, Qv]; exact h1
 ·intro h
  exact ⟨w, [], (Qv w).symm, h, rfl⟩
def sgW (ls vw : List Nat) (c : Nat) : Wd := fun w => ∃ d ∈ sgsA ls vw c, w = [d]
def seqW (ls vw : List Nat) : List Nat → Wd
 | [] => nilW
 | c :: b => catW (sgW ls vw c) (seqW ls vw b)
def Zqc (ls vw : List Nat) : List (List Nat) → Wd
 | [] => fun _ => False
 | b :: bs => altW (seqW ls vw b) (Zqc ls vw bs)
def Z4y (m : List Nat) (A : Wd) : Wd := if m = [63] then optW A else if m = [42] then optW (Zka A) else if m = [43] then Zka A else A
def itW (ls vw : List Nat) (t : It) : Wd := Z4y t.mark (Zqc ls vw t.brs)
def itsW (ls vw : List Nat) : List It → Wd
 | [] => nilW
 | t :: ts => catW (itW ls vw t) (itsW ls vw ts)
theorem Zij (A : Wd) : Zka A = catW A (optW (Zka A)) := Zsv fun w => by
 constructor
 ·intro p
  cases p with
  | one h => exact ⟨w, [], (Qv w).symm, h, Or.inl rfl⟩
  | @more u v h p => exact ⟨u, v, rfl, h, Or.inr p⟩
 ·rintro ⟨u, v, rfl, h, h2⟩
  rcases h2 with h2 | h2
  ·rw [show v = [] from h2, Qv]; exact .one h
  ·exact .more h h2
def Zxq (ls vw : List Nat) (t : It) : Wd := if loops t = true then optW (Zka (Zqc ls vw t.brs)) else nilW
def aftW (ls vw : List Nat) (ts : List It) (k : Nat) (t : It) : Wd := catW (Zxq ls vw t) (itsW ls vw (ts.drop (k + 1)))
def cuW (ls vw : List Nat) (ts : List It) (x : Cu) : Wd := match ts[x.1]? with
 | none => nilW
 | some t => catW (seqW ls vw ((t.brs.getD x.2.1 []).drop x.2.2)) (aftW ls vw ts x.1 t)
theorem Zvk {ls vw : List Nat} {t : It} (hm : t.mark ∈ ([[], [63], [42], [43]] : List (List Nat))) (w : List Nat) : itW ls vw t w ↔ catW (Zqc ls vw t.brs) (Zxq ls vw t) w ∨ (hops t = true ∧ w = []) := by
 unfold itW Zxq Z4y hops loops
 simp at hm
 rcases hm with h | h | h | h <;> rw [h]
 ·simp [Zru]
 ·simp [Zru, optW, or_comm]
 ·simp [← Zij, optW, or_comm]
 ·simp [← Zij]
section
variable {ls vw : List Nat} {ts : List It}
theorem Zmz {w : List Nat} : ∀ {bs : List (List Nat)}, Zqc ls vw bs w ↔ ∃ (b : Nat) (br : List Nat), bs[b]? = some br ∧ seqW ls vw br w
 | [] => ⟨fun h => h.elim, fun ⟨b, br, h, _⟩ => by simp at h⟩
 | a :: bs => by
  show seqW ls vw a w ∨ Zqc ls vw bs w ↔ _
  rw [Zmz (bs := bs)]
  constructor
  ·rintro (h | ⟨b, br, h1, h2⟩)
   ·exact ⟨0, a, rfl, h⟩
   ·exact ⟨b + 1, br, h1, h2⟩
  ·rintro ⟨b, br, h1, h2⟩
   cases b with
   | zero => cases h1; exact Or.inl h2
   | succ b => exact Or.inr ⟨b, br, h1, h2⟩
theorem Zow {k : Nat} {t : It} (ht : ts[k]? = some t) (w : List Nat) : (∃ x ∈ brC k t, cuW ls vw ts x w) ↔ catW (Zqc ls vw t.brs) (aftW ls vw ts k t) w := by
 have e : ∀ b, cuW ls vw ts (k, b, 0) = catW (seqW ls vw (t.brs.getD b [])) (aftW ls vw ts k t) := fun b => by
  unfold cuW
  dsimp only
  rw [ht]
  rfl
 unfold brC
 constructor
 ·rintro ⟨x, hx, h⟩
  obtain ⟨b, hb, rfl⟩ := Qs.mp hx
  rw [e] at h
  obtain ⟨u, v, rfl, h1, h2⟩ := h
  refine ⟨u, v, rfl, Zmz.mpr ⟨b, t.brs.getD b [], ?_, h1⟩, h2⟩
  rw [Qi, Qf (Hu.mp hb)]
  rfl
 ·rintro ⟨u, v, rfl, h1, h2⟩
  obtain ⟨b, br, h3, h4⟩ := Zmz.mp h1
  refine ⟨(k, b, 0), Qs.mpr ⟨b, Hu.mpr (Qa.mp h3).1, rfl⟩, ?_⟩
  rw [e, Qi, h3]
  exact ⟨u, v, rfl, h4, h2⟩
theorem Z56 {k : Nat} {t : It} (ht : ts[k]? = some t) : itsW ls vw (ts.drop k) = catW (itW ls vw t) (itsW ls vw (ts.drop (k + 1))) := by
 have hk := Qa.mp ht
 rw [Qu hk.1, hk.2]
 rfl
theorem Zjh (ok : ∀ t ∈ ts, OkIt ls t) : ∀ (n k : Nat), k + n = ts.length → ∀ w, (∃ x ∈ bef ts k, cuW ls vw ts x w) ↔ itsW ls vw (ts.drop k) w
 | 0, k, e, w => by
  have hd : ts.drop k = [] := Ge (by omega)
  unfold bef
  rw [hd]
  show (∃ x ∈ [(k, 0, 0)], _) ↔ w = []
  have : cuW ls vw ts (k, 0, 0) = nilW := by unfold cuW; dsimp only; rw [Hj (by omega)]
  simp [this]
 | n + 1, k, e, w => by
  have ht := Qf (show k < ts.length by omega)
  have ih := Zjh ok n (k + 1) (by omega) w
  rw [Z56 ht]
  unfold bef at ih ⊢
  rw [show befL (ts.drop k) k = brC k ts[k] ++ (if hops ts[k] = true then befL (ts.drop (k + 1)) (k + 1) else []) by rw [Qu (show k < ts.length by omega)]; rfl]
  have split_ : (∃ x ∈ brC k ts[k] ++ (if hops ts[k] = true then befL (ts.drop (k + 1)) (k + 1) else []), cuW ls vw ts x w) ↔ (∃ x ∈ brC k ts[k], cuW ls vw ts x w) ∨ (hops ts[k] = true ∧ itsW ls vw (ts.drop (k + 1)) w) := by
   rw [← ih]
   by_cases h : hops ts[k] = true
   ·rw [if_pos h]
    simp [h, Q2, or_and_right, exists_or]
   ·rw [if_neg h]
    simp [h]
  rw [split_, Zow ht]
  unfold aftW
  rw [← Zgl]
  constructor
  ·rintro (⟨u, v, rfl, h1, h2⟩ | ⟨h, h2⟩)
   ·exact ⟨u, v, rfl, (Zvk (ok _ (H5 _)).mrk u).mpr (Or.inl h1), h2⟩
   ·exact ⟨[], w, rfl, (Zvk (ok _ (H5 _)).mrk []).mpr (Or.inr ⟨h, rfl⟩), h2⟩
  ·rintro ⟨u, v, rfl, h1, h2⟩
   rcases (Zvk (ok _ (H5 _)).mrk u).mp h1 with h | ⟨h, rfl⟩
   ·exact Or.inl ⟨u, v, rfl, h, h2⟩
   ·exact Or.inr ⟨h, h2⟩
theorem Zwm (ok : ∀ t ∈ ts, OkIt ls t) {k : Nat} {t : It} (ht : ts[k]? = some t) (w : List Nat) : aftW ls vw ts k t w ↔ ∃ x ∈ bef ts (k + 1) ++ (if loops t = true then brC k t else []), cuW ls vw ts x w := by
 have hk := (Qa.mp ht).1
 have ih := Zjh (vw := vw) ok (ts.length - (k + 1)) (k + 1) (by omega) w
 have bc := Zow (ls := ls) (vw := vw) ht w
 unfold aftW Zxq at bc ⊢
 by_cases h : loops t = true
 ·rw [if_pos h] at bc ⊢
  rw [if_pos h]
  rw [← Zgl, ← Zij] at bc
  have e : (∃ x ∈ bef ts (k + 1) ++ brC k t, cuW ls vw ts x w) ↔ (∃ x ∈ bef ts (k + 1), cuW ls vw ts x w) ∨ ∃ x ∈ brC k t, cuW ls vw ts x w := by simp [Q2, or_and_right, exists_or]
  rw [e, ih, bc]
  constructor
  ·rintro ⟨u, v, rfl, h1 | h1, h2⟩
   ·subst h1; exact Or.inl h2
   ·exact Or.inr ⟨u, v, rfl, h1, h2⟩
  ·rintro (h1 | ⟨u, v, rfl, h1, h2⟩)
   ·exact ⟨[], w, rfl, Or.inl rfl, h1⟩
   ·exact ⟨u, v, rfl, Or.inr h1, h2⟩
 ·rw [if_neg h, if_neg h, Qv, ih]
  constructor
  ·rintro ⟨u, v, rfl, h1, h2⟩
   rw [show u = [] from h1]; exact h2
  ·intro h1
   exact ⟨[], w, rfl, rfl, h1⟩
theorem Zkg (ok : ∀ t ∈ ts, OkIt ls t) {x : Cu} (h : CuOk ts x) (c : Nat) (z : List Nat) : cuW ls vw ts x (c :: z) ↔ ∃ y ∈ Zw0 ls vw ts c x, cuW ls vw ts y z := by
 rcases h with rfl | ⟨t, ht, br, hb, ha⟩
 ·unfold cuW Zw0
  dsimp only
  rw [Hj (Qz _)]
  exact ⟨fun h => (by cases h), fun ⟨y, hy, _⟩ => (by cases hy)⟩
 ·obtain ⟨k, b, a⟩ := x
  have hbr : t.brs.getD b [] = br := by rw [Qi, hb]; rfl
  have hg : br.getD a 0 = br[a] := by rw [Qi, Qf ha]; rfl
  have e1 : cuW ls vw ts (k, b, a) = catW (sgW ls vw br[a]) (catW (seqW ls vw (br.drop (a + 1))) (aftW ls vw ts k t)) := by
   unfold cuW
   dsimp only
   rw [ht]
   dsimp only
   rw [hbr, Qu ha, ← Zgl]
   rfl
  have e2 : ∀ w, catW (sgW ls vw br[a]) w (c :: z) ↔ c ∈ sgsA ls vw br[a] ∧ w z := fun w => by
   constructor
   ·rintro ⟨u, v, e, ⟨d, hd, rfl⟩, h2⟩
    cases e
    exact ⟨hd, h2⟩
   ·rintro ⟨h1, h2⟩
    exact ⟨[c], z, rfl, ⟨c, h1, rfl⟩, h2⟩
  rw [e1, e2]
  unfold Zw0
  dsimp only
  rw [ht]
  dsimp only
  rw [hbr, hg]
  by_cases hc : c ∈ sgsA ls vw br[a]
  ·rw [if_pos hc]
   by_cases hl : a + 1 < br.length
   ·rw [if_pos hl]
    have e3 : cuW ls vw ts (k, b, a + 1) = catW (seqW ls vw (br.drop (a + 1))) (aftW ls vw ts k t) := by
     unfold cuW
     dsimp only
     rw [ht]
     dsimp only
     rw [hbr]
    simp [hc, e3]
   ·rw [if_neg hl, ← Zwm ok ht, Ge (by omega)]
    have e4 : catW (seqW ls vw []) (aftW ls vw ts k t) z ↔ aftW ls vw ts k t z := ⟨fun ⟨u, v, e, h1, h2⟩ => by rw [e, show u = [] from h1]; exact h2, fun h => ⟨[], z, rfl, rfl, h⟩⟩
    rw [e4]
    exact ⟨fun h => h.2, fun h => ⟨hc, h⟩⟩
  ·rw [if_neg hc]
   exact ⟨fun h => absurd h.1 hc, fun ⟨y, hy, _⟩ => (by cases hy)⟩
end
structure CurI (ls vw : List Nat) (ts : List It) (cs : List Cu) (z : List Nat) : Prop where
 nd : cs.Nodup
 ok : ∀ x ∈ cs, CuOk ts x
 w : ∀ w, (∃ x ∈ cs, cuW ls vw ts x w) ↔ itsW ls vw ts (z ++ w)
theorem CurI.step {ls vw : List Nat} {ts : List It} {cs cs' : List Cu} {z : List Nat} (I : CurI ls vw ts cs z) (it : ∀ t ∈ ts, OkIt ls t) {c : Nat} (nd : cs'.Nodup) (hok : ∀ x ∈ cs', CuOk ts x) (h : ∀ x, x ∈ cs' ↔ x ∈ Zyu ls vw ts cs c) : CurI ls vw ts cs' (z ++ [c]) := by
 refine ⟨nd, hok, fun w => ?_⟩
 ·rw [Hi, ← I.w]
  constructor
  ·rintro ⟨x, hx, hw⟩
   obtain ⟨y, hy, hx⟩ := Q9.mp ((h x).mp hx)
   exact ⟨y, hy, (Zkg it (I.ok y hy) c w).mpr ⟨x, hx, hw⟩⟩
  ·rintro ⟨y, hy, hw⟩
   obtain ⟨x, hx, hw⟩ := (Zkg it (I.ok y hy) c w).mp hw
   exact ⟨x, (h x).mpr (Q9.mpr ⟨y, hy, hx⟩), hw⟩
local macro_rules | `(tactic| walk_at "fz") => `(tactic| repeat with_reducible refine Wg.go ?_)
local macro_rules | `(tactic| walk_at "dw") => `(tactic| (((first | with_reducible refine Zu9 (by decide) ?_ | with_reducible refine Zu7 (by decide) ?_ | fail); walk_at "fz"); walk_at "dw"))
local macro_rules | `(tactic| walk_at "dw") => `(tactic| (((first | with_reducible refine k_rd (by with_unfolding_all exact rfl) ?_ | with_reducible refine Zzp (by with_unfolding_all exact rfl) ?_ | fail); walk_at "fz"); walk_at "dw"))
local macro_rules | `(tactic| walk_at "fz") => `(tactic| repeat with_reducible refine Wg.go ?_)
theorem Z23 {b : Nat} {k : List Nat} (hp : k.Pairwise (· < ·)) (h : ∀ m ∈ k, m < b) : k.length ≤ b := by
 have : k.length ≤ (List.range b).length := Zfh (hp.imp fun {a b} h => Gq h) fun m hm => Hu.mpr (h m hm)
 rwa [Hx] at this
theorem Zwr.len {n : Nat} (hn : n ≤ 10) {o : List Int} (h : Zwr n o) : o.length ≤ 10 := by
 rcases h with rfl | ⟨k, _, rfl, hp, hk⟩
 ·decide
 ·have := Z23 hp hk
  rw [Qb]
  omega
theorem Zwr.at {n : Nat} {o : List Int} (h : Zwr n o) {x : Int} (hx : x ∈ o) : x < 0 ∨ ∃ m : Nat, x = m ∧ m < n := by
 rcases h with rfl | ⟨k, _, rfl, hp, hk⟩
 ·rw [Qq] at hx
  omega
 ·obtain ⟨m, hm, rfl⟩ := Qs.mp hx
  exact Or.inr ⟨m, rfl, hk m hm⟩
local macro_rules | `(tactic| walk_at "fz") => `(tactic| repeat with_reducible refine Wg.go ?_)
theorem OkIt.len {ls : List Nat} {t : It} (ok : OkIt ls t) : (glue [124] t.brs).length ≤ 6 ∧ t.mark.length ≤ 1 ∧ (t.brs.map List.length).sum ≤ 4 ∧ (t.brs.headD []).length ≤ 2 := by
 have hm : t.mark.length ≤ 1 := by
  have := ok.mrk
  simp at this
  rcases this with h | h | h | h <;> rw [h] <;> decide
 have h2 := ok.two
 have hb := ok.br
 match hbr : t.brs with
 | [] => exact absurd hbr ok.ne
 | [a] =>
  have := (hb a (by rw [hbr]; simp)).2.1
  exact ⟨by simp [glue]; omega, hm, by simp; omega, by simpa using this⟩
 | [a, b] =>
  have h1 := (hb a (by rw [hbr]; simp)).2.1
  have h2 := (hb b (by rw [hbr]; simp)).2.1
  exact ⟨by simp [glue]; omega, hm, by simp; omega, by simpa using h1⟩
 | a :: b :: c :: r => rw [hbr] at h2; simp at h2
theorem Z21 {ts : List It} {k : Nat} {t : It} (h : ts[k]? = some t) : befL (ts.drop k) k = brC k t ++ if hops t = true then befL (ts.drop (k + 1)) (k + 1) else [] := by
 have hk := Qa.mp h
 rw [Qu hk.1, hk.2]
 rfl
def allI (k : Nat) (t : It) : List Cu := (List.range t.brs.length).flatMap fun b => (List.range (t.brs.getD b []).length).map fun a => (k, b, a)
def allL : List It → Nat → List Cu
 | [], k => [(k, 0, 0)]
 | t :: r, k => allI k t ++ allL r (k + 1)
theorem Zyo {k : Nat} {t : It} {b a : Nat} {br : List Nat} (h : t.brs[b]? = some br) (ha : a < br.length) : (k, b, a) ∈ allI k t := by
 refine Q9.mpr ⟨b, Hu.mpr (Qa.mp h).1, Qs.mpr ⟨a, Hu.mpr ?_, rfl⟩⟩
 rw [Qi, h]
 exact ha
theorem Zrx : ∀ {ts : List It} {k : Nat} {t : It} {i b a : Nat} {br : List Nat}, ts[i]? = some t → t.brs[b]? = some br → a < br.length → (k + i, b, a) ∈ allL ts k
 | [], k, t, i, b, a, br, h, _, _ => by simp at h
 | t' :: r, k, t, 0, b, a, br, h, h1, h2 => by
  cases h
  exact List.mem_append_left _ (Zyo h1 h2)
 | t' :: r, k, t, i + 1, b, a, br, h, h1, h2 => by
  have := Zrx (k := k + 1) (ts := r) (i := i) h h1 h2
  rw [show k + (i + 1) = k + 1 + i by omega]
  exact G7 _ this
theorem Zry : ∀ {ts : List It} {k : Nat}, (k + ts.length, 0, 0) ∈ allL ts k
 | [], k => Qp
 | t :: r, k => by
  have := Zry (ts := r) (k := k + 1)
  rw [Qe, show k + (r.length + 1) = k + 1 + r.length by omega]
  exact G7 _ this
theorem CuOk.all {ts : List It} {x : Cu} (h : CuOk ts x) : x ∈ allL ts 0 := by
 rcases h with rfl | ⟨t, ht, br, hb, ha⟩
 ·have := Zry (ts := ts) (k := 0)
  rwa [Lu] at this
 ·have := Zrx (k := 0) ht hb ha
  rwa [Lu] at this
def CuB (x : Cu) : Prop := x.1 < 64 ∧ x.2.1 < 64 ∧ x.2.2 < 64
theorem CuOk.b {ls : List Nat} {n g : Nat} {ts : List It} (ok : Z9k ls n g ts) (h4 : n ≤ 4) {x : Cu} (h : CuOk ts x) : CuB x := by
 have := ok.le
 rcases h with rfl | ⟨t, ht, br, hb, ha⟩
 ·exact ⟨by show ts.length < 64; omega, by show 0 < 64; decide, by show 0 < 64; decide⟩
 ·have h1 := (Qa.mp ht).1
  have h2 := (Qa.mp hb).1
  have okt := ok.it t (Qr ht)
  have h3 := okt.two
  have h4 := (okt.br br (Qr hb)).2.1
  exact ⟨by omega, by omega, by omega⟩
theorem Z6u {ts : List It} {ls : List Nat} (ok : ∀ t ∈ ts, OkIt ls t) {k : Nat} {t : It} (ht : ts[k]? = some t) : ∀ x ∈ brC k t, CuOk ts x := fun x hx => by
 obtain ⟨b, hb, rfl⟩ := Qs.mp hx
 have hb' := Hu.mp hb
 refine Or.inr ⟨t, ht, t.brs[b], Qf hb', ?_⟩
 have := ((ok t (Qr ht)).br t.brs[b] (H5 hb')).1
 exact Lh.mpr this
theorem Z0b {ts : List It} {ls : List Nat} (ok : ∀ t ∈ ts, OkIt ls t) : ∀ (n k : Nat), k + n = ts.length → ∀ x ∈ bef ts k, CuOk ts x
 | 0, k, e, x, hx => by
  unfold bef at hx
  rw [Ge (by omega)] at hx
  rw [Qq.mp hx]
  exact Or.inl (by rw [show k = ts.length by omega])
 | n + 1, k, e, x, hx => by
  have hk : k < ts.length := by omega
  unfold bef at hx
  rw [Z21 (Qf hk)] at hx
  rcases Q2.mp hx with h | h
  ·exact Z6u ok (Qf hk) x h
  ·split at h
   ·exact Z0b ok n (k + 1) (by omega) x h
   ·cases h
theorem Zwe {k : Nat} {t : It} {x : Cu} (h : x ∈ brC k t) : x.1 = k := by
 obtain ⟨b, _, rfl⟩ := Qs.mp h
 rfl
theorem Zwi : ∀ {ts : List It} {k : Nat} {x : Cu}, x ∈ befL ts k → k ≤ x.1
 | [], k, x, h => by rw [Qq.mp h]; exact Qz _
 | t :: r, k, x, h => by
  rcases Q2.mp h with h | h
  ·rw [Zwe h]; exact Qz _
  ·split at h
   ·have := Zwi h; omega
   ·cases h
theorem Zwd {k : Nat} {t : It} : (brC k t).Nodup := by
 unfold brC
 rw [List.Nodup, Gf]
 exact List.Pairwise.imp (fun h e => h (by cases e; rfl)) List.nodup_range
theorem Zk2 : ∀ {ts : List It} {k : Nat}, (befL ts k).Nodup
 | [], k => Hd.mpr ⟨by simp, Gh⟩
 | t :: r, k => by
  refine Hv.mpr ⟨Zwd, ?_, fun a ha b hb e => ?_⟩
  ·split
   ·exact Zk2
   ·exact Gh
  ·split at hb
   ·have := Zwi hb
    have := Zwe ha
    subst e
    omega
   ·cases hb
theorem Zwh {ts : List It} {k : Nat} : (bef ts k).Nodup := Zk2
theorem CurI.first {ls vw : List Nat} {ts : List It} (it : ∀ t ∈ ts, OkIt ls t) : CurI ls vw ts (bef ts 0) [] := ⟨Zwh, Z0b it ts.length 0 (by omega), fun w => by rw [Zjh it ts.length 0 (by omega)]; rfl⟩
inductive Sk where
 | ev
 | li (ws : List (List Nat))
 | sh (ts : List It)
abbrev kEv : List Nat := [101, 118, 101, 114, 121]
abbrev kLi : List Nat := [108, 105, 115, 116, 101, 100]
abbrev kSh : List Nat := [115, 104, 97, 112, 101, 100]
def Sk.pv : Sk → PV
 | .ev => .tup [.str kEv, .lst []]
 | .li ws => .tup [.str kLi, .lst (ws.map PV.str)]
 | .sh ts => .tup [.str kSh, itsP ts]
inductive Mst where
 | tx (z : List Nat)
 | cu (cs : List Cu)
deriving DecidableEq
def Mst.pv : Mst → PV
 | .tx z => .str z
 | .cu cs => .tup (cs.map cuP)
abbrev dead : Mst := .cu []
def nrm (ts : List It) (xs : List Cu) : List Cu := (allL ts 0).filter fun x => decide (x ∈ xs)
def begK : Sk → Mst
 | .sh ts => .cu (nrm ts (bef ts 0))
 | _ => .tx []
def Z6c (ws : List (List Nat)) (z : List Nat) : Bool := ws.any fun w => decide (w.take z.length = z)
def onK (ls vw : List Nat) : Sk → Mst → Nat → Mst
 | .ev, _, _ => .tx []
 | .sh ts, .cu cs, c => .cu (nrm ts (Zyu ls vw ts cs c))
 | .li ws, .tx z, c => if Z6c ws (z ++ [c]) = true then .tx (z ++ [c]) else dead
 | _, _, _ => dead
def Z84 : Sk → Mst → Bool
 | .ev, _ => true
 | .sh ts, .cu cs => decide ((ts.length, 0, 0) ∈ cs)
 | .li ws, .tx z => decide (z ∈ ws)
 | _, _ => false
def brl (ts : List It) (k : Nat) : Nat := (ts[k]?.map fun t => t.brs.length).getD 0
def Tog (ts : List It) (cs : List Cu) : Prop := ∀ k b, (k, b, 0) ∈ cs → ∀ b', b' < brl ts k → (k, b', 0) ∈ cs
def Z9j : Sk → Mst → Prop
 | .ev, s => s = .tx []
 | .li ws, s => ∃ z, s = .tx z ∧ (z = [] ∨ ∃ w ∈ ws, w.take z.length = z)
 | .sh ts, s => ∃ cs, s = .cu cs ∧ cs ≠ [] ∧ nrm ts cs = cs ∧ (∀ x ∈ cs, CuOk ts x) ∧ Tog ts cs
structure Zrz (ls vw : List Nat) (sk : Sk) (sts : List Mst) (rows : List (List Int)) (goods : List Bool) : Prop where
 hd : sts[0]? = some (begK sk)
 nd : sts.Nodup
 ok : ∀ s ∈ sts, Z9j sk s
 len : rows.length = sts.length
 good : goods = sts.map (Z84 sk)
 row : ∀ (i : Nat) (s : Mst) (r : List Int), sts[i]? = some s → rows[i]? = some r → r.length = ls.length + 1 ∧ ∀ (a c : Nat), (45 :: ls)[a]? = some c → ∃ v, r[a]? = some v ∧ ((onK ls vw sk s c = dead ∧ v = -1) ∨ ∃ j : Nat, v = j ∧ sts[j]? = some (onK ls vw sk s c))
 le : sts.length ≤ 300
section
variable {ls vw : List Nat} {n m : Nat} {sk : Sk} {sts : List Mst} {rows : List (List Int)} {goods : List Bool}
theorem Zrz.at (h : Zrz ls vw sk sts rows goods) {i a c : Nat} {s : Mst} (hs : sts[i]? = some s) (hc : (45 :: ls)[a]? = some c) : (onK ls vw sk s c = dead ∧ stp rows i a = -1) ∨ ∃ j : Nat, stp rows i a = j ∧ sts[j]? = some (onK ls vw sk s c) := by
 have hi := (Qa.mp hs).1
 have hi' : i < rows.length := by rw [h.len]; exact hi
 have hr : rows[i]? = some rows[i] := Qf hi'
 obtain ⟨_, h2⟩ := h.row i s _ hs hr
 obtain ⟨v, h3, h4⟩ := h2 a c hc
 have e : stp rows i a = v := by
  unfold stp
  rw [getD_some hr, getD_some h3]
 rw [e]
 exact h4
theorem Zrz.tab (h : Zrz ls vw sk sts rows goods) : Tab (ls.length + 1) rows := by
 have h0 := (Qa.mp h.hd).1
 have row : ∀ r ∈ rows, ∃ i s, sts[i]? = some s ∧ rows[i]? = some r := fun r hr => by
  obtain ⟨i, hi⟩ := Hr hr
  have hl := (Qa.mp hi).1
  exact ⟨i, sts[i]'(by rw [← h.len]; exact hl), Qf _, hi⟩
 refine ⟨fun e => ?_, fun r hr => ?_, fun r hr v hv => ?_⟩
 ·have := h.len
  rw [e] at this
  simp at this
  omega
 ·obtain ⟨i, s, h1, h2⟩ := row r hr
  exact (h.row i s r h1 h2).1
 ·obtain ⟨i, s, h1, h2⟩ := row r hr
  obtain ⟨h3, h4⟩ := h.row i s r h1 h2
  obtain ⟨a, ha⟩ := Hr hv
  have hal := (Qa.mp ha).1
  obtain ⟨v', e, h5⟩ := h4 a _ (Qf (show a < (45 :: ls).length by rw [Qe]; omega))
  rw [ha] at e
  cases e
  rw [h.len]
  rcases h5 with ⟨_, rfl⟩ | ⟨j, rfl, hj⟩
  ·exact ⟨by omega, by omega⟩
  ·have := (Qa.mp hj).1
   exact ⟨by omega, by omega⟩
end
def rkF (w : Nat) (n : Nat) (y : List Nat) : Nat := y.foldl (fun n a => n * w + a + 1) n
def rk (w : Nat) (y : List Nat) : Nat := rkF w 0 y
theorem Zlt {w : Nat} (y : List Nat) (a : Nat) : rk w (y ++ [a]) = rk w y * w + a + 1 := by
 unfold rk rkF
 rw [List.foldl_append]
 rfl
theorem Zrf {w : Nat} {y : List Nat} {a : Nat} : inW w (y ++ [a]) ↔ inW w y ∧ a < w := by
 unfold inW
 simp only [Q2, Qq]
 exact ⟨fun h => ⟨fun b hb => h b (Or.inl hb), h a (Or.inr rfl)⟩, fun h b hb => hb.elim (h.1 b) fun e => e ▸ h.2⟩
theorem snoc_ind {P : List Nat → Prop} (h0 : P []) (hs : ∀ y a, P y → P (y ++ [a])) (y : List Nat) : P y := by
 have key : ∀ (n : Nat) (y : List Nat), y.length = n → P y := by
  intro n
  induction n with
  | zero => intro y h; rw [Ga.mp h]; exact h0
  | succ n ih =>
   intro y h
   have hne : y ≠ [] := fun e => by rw [e] at h; cases h
   rw [← List.dropLast_concat_getLast hne]
   exact hs _ _ (ih _ (by rw [List.length_dropLast, h]; rfl))
 exact key _ y rfl
def Z9m (w : Nat) (L : List Nat → Prop) : Option (List Nat) → Prop
 | none => ∀ y, inW w y → ¬ L y
 | some y => inW w y ∧ L y ∧ ∀ z, inW w z → L z → rk w y ≤ rk w z
section
variable {σ : Type} {w : Nat} {δ : σ → Nat → Option σ} {s0 : σ}
def runO (δ : σ → Nat → Option σ) (s : σ) (y : List Nat) : Option σ := y.foldl (fun o a => o.bind fun s => δ s a) (some s)
theorem Znu (s : σ) (y : List Nat) (a : Nat) : runO δ s (y ++ [a]) = (runO δ s y).bind fun t => δ t a := by
 unfold runO
 rw [List.foldl_append]
 rfl
structure Bfs (w : Nat) (δ : σ → Nat → Option σ) (s0 : σ) (ord : List (σ × List Nat)) (k a : Nat) : Prop where
 hd : ord[0]? = some (s0, [])
 nd : (ord.map (·.1)).Nodup
 mono : ord.Pairwise fun p q => rk w p.2 < rk w q.2
 run : ∀ p ∈ ord, inW w p.2 ∧ runO δ s0 p.2 = some p.1
 low : ∀ q, ord[k]? = some q → ∀ p ∈ ord, rk w p.2 < rk w q.2 * w + a + 1
 sz : ∀ (i : Nat) (p : σ × List Nat), ord[i]? = some p → p.2.length ≤ i
 done : ∀ (i b : Nat) (p : σ × List Nat), (i < k ∨ (i = k ∧ b < a)) → b < w → ord[i]? = some p → ∀ t, δ p.1 b = some t → ∃ q ∈ ord, q.1 = t ∧ rk w q.2 ≤ rk w p.2 * w + b + 1
variable {ord : List (σ × List Nat)} {k a : Nat}
theorem Bfs.known (h : Bfs w δ s0 ord k a) {s : σ} {y : List Nat} (hk : ord[k]? = some (s, y)) (hs : ∀ t, δ s a = some t → t ∈ ord.map (·.1)) : Bfs w δ s0 ord k (a + 1) := by
 refine ⟨h.hd, h.nd, h.mono, h.run, fun q hq p hp => by (have := h.low q hq p hp; omega), h.sz, fun i b p hi hb hp t ht => ?_⟩
 by_cases e : i = k ∧ b = a
 ·obtain ⟨rfl, rfl⟩ := e
  rw [hk] at hp
  cases hp
  obtain ⟨q, hq, e⟩ := Qs.mp (hs t ht)
  exact ⟨q, hq, e, Tc (h.low _ hk q hq)⟩
 ·exact h.done i b p (by omega) hb hp t ht
theorem Bfs.new (h : Bfs w δ s0 ord k a) {s t : σ} {y : List Nat} (hk : ord[k]? = some (s, y)) (ha : a < w) (ht : δ s a = some t) (hn : t ∉ ord.map (·.1)) : Bfs w δ s0 (ord ++ [(t, y ++ [a])]) k (a + 1) := by
 have hkl := (Qa.mp hk).1
 have hm := Qr hk
 have hr := h.run _ hm
 refine ⟨by rw [Q0 (by omega)]; exact h.hd, ?_, ?_, fun p hp => ?_, fun q hq p hp => ?_, fun i p hp => ?_, fun i b p hi hb hp u hu => ?_⟩
 ·rw [Q1, Hv]
  refine ⟨h.nd, by simp, fun a ha b hb e => ?_⟩
  rw [List.map_singleton, Qq] at hb
  have hb : b = t := hb
  exact hn (by rw [← hb, ← e]; exact ha)
 ·rw [List.pairwise_append]
  refine ⟨h.mono, by simp, fun p hp q hq => ?_⟩
  rw [Qq.mp hq]
  show _ < rk w (y ++ [a])
  rw [Zlt]
  exact h.low _ hk p hp
 ·rcases Q2.mp hp with hp | hp
  ·exact h.run p hp
  ·rw [Qq.mp hp]
   exact ⟨Zrf.mpr ⟨hr.1, ha⟩, by show runO δ s0 (y ++ [a]) = _; rw [Znu, hr.2]; exact ht⟩
 ·rw [Q0 hkl, hk] at hq
  cases hq
  rcases Q2.mp hp with hp | hp
  ·have := h.low _ hk p hp; omega
  ·rw [Qq.mp hp]
   show rk w (y ++ [a]) < rk w y * w + (a + 1) + 1
   rw [Zlt]
   omega
 ·rcases Gs i ord.length with hi | hi
  ·rw [Q0 hi] at hp
   exact h.sz i p hp
  ·have hbl := (Qa.mp hp).1
   rw [Qc, Gi] at hbl
   have : i = ord.length := by omega
   subst this
   rw [Qj] at hp
   cases hp
   have := h.sz _ _ hk
   show (y ++ [a]).length ≤ _
   rw [Qc, Gi]
   have : y.length ≤ k := this
   omega
 ·have hil : i < ord.length := by omega
  rw [Q0 hil] at hp
  by_cases e : i = k ∧ b = a
  ·obtain ⟨rfl, rfl⟩ := e
   rw [hk] at hp
   cases hp
   rw [ht] at hu
   cases hu
   exact ⟨_, G7 _ (Qq.mpr rfl), rfl, by show rk w (y ++ [b]) ≤ _; rw [Zlt]; exact Qz _⟩
  ·obtain ⟨q, hq, h1, h2⟩ := h.done i b p (by omega) hb hp u hu
   exact ⟨q, List.mem_append_left _ hq, h1, h2⟩
theorem Z72 {α : Type} {f : α → Nat} {l : List α} (h : l.Pairwise fun p q => f p < f q) {i j : Nat} {p q : α} (hi : l[i]? = some p) (hj : l[j]? = some q) (le : i ≤ j) : f p ≤ f q := by
 obtain ⟨h1, rfl⟩ := Qa.mp hi
 obtain ⟨h2, rfl⟩ := Qa.mp hj
 rcases Nat.lt_or_eq_of_le le with h' | h'
 ·exact Tc (List.pairwise_iff_getElem.mp h i j h1 h2 h')
 ·subst h'; exact Qz _
theorem Bfs.all (h : Bfs w δ s0 ord k 0) : ∀ (y : List Nat) (t : σ), inW w y → runO δ s0 y = some t → (∃ q ∈ ord, q.1 = t ∧ rk w q.2 ≤ rk w y) ∨ ∃ q, ord[k]? = some q ∧ rk w q.2 < rk w y := by
 intro y
 refine snoc_ind (P := fun y => ∀ t, inW w y → runO δ s0 y = some t → (∃ q ∈ ord, q.1 = t ∧ rk w q.2 ≤ rk w y) ∨ ∃ q, ord[k]? = some q ∧ rk w q.2 < rk w y) ?_ ?_ y
 ·intro t _ ht
  cases ht
  exact Or.inl ⟨_, Qr h.hd, rfl, Qz _⟩
 ·intro y a ih t hy ht
  have hy' := Zrf.mp hy
  rw [Znu] at ht
  cases hs : runO δ s0 y with
  | none => rw [hs] at ht; cases ht
  | some s =>
   rw [hs] at ht
   have ht : δ s a = some t := ht
   rw [Zlt]
   rcases ih s hy'.1 hs with ⟨q, hq, rfl, hle⟩ | ⟨q, hq, hlt⟩
   ·obtain ⟨i, hi⟩ := Hr hq
    have hmul : rk w q.2 * w ≤ rk w y * w := Nat.mul_le_mul_right w hle
    rcases Gs i k with h' | h'
    ·obtain ⟨q', h1, h2, h3⟩ := h.done i a q (Or.inl h') hy'.2 hi t ht
     exact Or.inl ⟨q', h1, h2, by omega⟩
    ·have hkl : k < ord.length := Nat.lt_of_le_of_lt h' (Qa.mp hi).1
     have hk := Qf hkl
     have := Z72 (f := fun p => rk w p.2) h.mono hk hi h'
     have h1 : rk w y * 1 ≤ rk w y * w := Nat.mul_le_mul_left _ (by omega)
     exact Or.inr ⟨_, hk, by omega⟩
   ·have h1 : rk w y * 1 ≤ rk w y * w := Nat.mul_le_mul_left _ (by omega)
    exact Or.inr ⟨q, hq, by omega⟩
theorem Bfs.none (h : Bfs w δ s0 ord k 0) {good : σ → Bool} (hk : ord.length ≤ k) (hb : ∀ i p, i < k → ord[i]? = some p → good p.1 = false) {L : List Nat → Prop} (hL : ∀ y, inW w y → (L y ↔ ∃ t, runO δ s0 y = some t ∧ good t = true)) : Z9m w L .none := by
 intro z hz hzL
 obtain ⟨t, ht, hgt⟩ := (hL z hz).mp hzL
 rcases h.all z t hz ht with ⟨q, hq, rfl, hle⟩ | ⟨q, hq, hlt⟩
 ·obtain ⟨i, hi⟩ := Hr hq
  rw [hb i q (by have := (Qa.mp hi).1; omega) hi] at hgt
  cases hgt
 ·rw [Hj hk] at hq; cases hq
theorem Bfs.mem (h : Bfs w δ s0 ord k 0) (hk : ord.length ≤ k) (t : σ) : t ∈ ord.map (·.1) ↔ ∃ y, inW w y ∧ runO δ s0 y = some t := by
 constructor
 ·intro hm
  obtain ⟨p, hp, rfl⟩ := Qs.mp hm
  exact ⟨p.2, h.run p hp⟩
 ·rintro ⟨y, hy, hr⟩
  rcases h.all y t hy hr with ⟨q, hq, rfl, _⟩ | ⟨q, hq, _⟩
  ·exact List.mem_map_of_mem hq
  ·rw [Hj hk] at hq; cases hq
end
def Z6b (G : List Bool) (p : Int) : Bool := decide (0 ≤ p) && G.getD p.toNat false
abbrev Pr := Int × Int
def stpI (R : List (List Int)) (p : Int) (a : Nat) : Int := if 0 ≤ p then stp R p.toNat a else -1
def Zzc (R1 R2 : List (List Int)) (p : Pr) (a : Nat) : Pr := (stpI R1 p.1 a, stpI R2 p.2 a)
abbrev Rl := Bool × Bool × Bool
def Rl.on (r : Rl) (a b : Bool) : Bool := if a = true then (if b = true then r.2.2 else r.2.1) else (if b = true then r.1 else false)
abbrev Rl.pv (r : Rl) : PV := .tup [.bl false, .bl r.1, .bl r.2.1, .bl r.2.2]
structure Z0d (w : Nat) (R1 R2 : List (List Int)) (G1 G2 : List Bool) (r : Rl) (ps : List Pr) (rows : List (List Int)) (goods : List Bool) : Prop where
 hd : ps[0]? = some (0, 0)
 len : rows.length = ps.length
 good : goods = ps.map fun p => r.on (Z6b G1 p.1) (Z6b G2 p.2)
 row : ∀ (i : Nat) (p : Pr) (x : List Int), ps[i]? = some p → rows[i]? = some x → x.length = w ∧ ∀ (a : Nat) (v : Int), x[a]? = some v → (Zzc R1 R2 p a = (-1, -1) ∧ v = -1) ∨ ∃ j : Nat, v = j ∧ ps[j]? = some (Zzc R1 R2 p a)
section
variable {w : Nat} {R1 R2 : List (List Int)} {G1 G2 : List Bool} {r : Rl} {ps : List Pr} {rows : List (List Int)} {goods : List Bool}
theorem Z0d.tab (h : Z0d w R1 R2 G1 G2 r ps rows goods) : Tab w rows := by
 have h0 := (Qa.mp h.hd).1
 have row : ∀ x ∈ rows, ∃ i p, ps[i]? = some p ∧ rows[i]? = some x := fun x hx => by
  obtain ⟨i, hi⟩ := Hr hx
  have hl := (Qa.mp hi).1
  exact ⟨i, ps[i]'(by rw [← h.len]; exact hl), Qf _, hi⟩
 refine ⟨fun e => ?_, fun x hx => ?_, fun x hx v hv => ?_⟩
 ·have := h.len
  rw [e] at this
  simp at this
  omega
 ·obtain ⟨i, p, h1, h2⟩ := row x hx
  exact (h.row i p x h1 h2).1
 ·obtain ⟨i, p, h1, h2⟩ := row x hx
  obtain ⟨a, ha⟩ := Hr hv
  rcases (h.row i p x h1 h2).2 a v ha with ⟨_, rfl⟩ | ⟨j, rfl, hj⟩
  ·rw [h.len]; exact ⟨by omega, by omega⟩
  ·have := (Qa.mp hj).1
   rw [h.len]; exact ⟨by omega, by omega⟩
end
section
variable {S : Sc}
def Zyh (i : Nat) (e : DE) : DS := fun E ds M => ∃ v : Int, ds[i]? = some (some (vI v)) ∧ e ds M fun z M1 => ∃ w : Int, z = vI w ∧ E.nx (ds.set i (some (vI (v + w)))) M1
theorem Zqz {i : Nat} {te : TE} {e : DE} (he : SimE S te e) : SimS S (tAug i te (ipI fun i j => i + j)) (Zyh i e) := fun c M σ ds E Ed ok rs ⟨v, hv, q⟩ po => by
 obtain ⟨x, hx, rx⟩ := rs.2 i _ hv
 cases (show x = .int v from rx)
 refine ⟨_, hx, he c M σ ds _ _ ok rs q fun c1 M1 v1 d1 s1 r1 p1 ⟨w, e1, q1⟩ => ?_⟩
 subst e1
 cases (show v1 = .int w from p1)
 exact ⟨v, w, rfl, rfl, po.nx _ _ _ _ s1 r1 ((rs.step s1).set (show RpD S.K S.cs c1.F c1.ρ (vI (v + w)) (.int (v + w)) from rfl)) q1⟩
theorem Zz0 {i : Nat} {v : Int} {e : DE} {E : Zd8} {ds : DSt} {M : Mem} (hv : ds[i]? = some (some (vI v))) (h : e ds M fun z M1 => ∃ w : Int, z = vI w ∧ E.nx (ds.set i (some (vI (v + w)))) M1) : Zyh i e E ds M := ⟨v, hv, h⟩
end
def dotF : List Int → (Nat → Int) → Nat → Int
 | [], _, _ => 0
 | x :: xs, v, i => x * v i + dotF xs v (i + 1)
abbrev dot (W : List Int) (v : Nat → Int) : Int := dotF W v 0
theorem Zrp (v : Nat → Int) (y : Int) : ∀ (W : List Int) (i n : Nat) (x : Int), W[n]? = some x → dotF (W.set n (x + y)) v i = dotF W v i + y * v (i + n)
 | [], _, _, _, h => by simp at h
 | a :: W, i, 0, x, h => by
  cases h
  show (a + y) * v i + dotF W v (i + 1) = a * v i + dotF W v (i + 1) + y * v i
  rw [Int.add_mul]
  omega
 | a :: W, i, n + 1, x, h => by
  have ih := Zrp v y W (i + 1) n x (by simpa using h)
  show a * v i + dotF (W.set n (x + y)) v (i + 1) = a * v i + dotF W v (i + 1) + y * v (i + (n + 1))
  rw [ih, show i + 1 + n = i + (n + 1) by omega]
  omega
theorem Z2p {v : Nat → Int} {y x : Int} {W : List Int} {n : Nat} (h : W[n]? = some x) : dot (W.set n (x + y)) v = dot W v + y * v n := by
 have := Zrp v y W 0 n x h
 rwa [Lu] at this
def Zhz (v : Nat → Int) (r : List Int) : Int := (r.map fun s => if 0 ≤ s then v s.toNat else 0).sum
theorem Znb (v : Nat → Int) (r : List Int) (s : Int) : Zhz v (r ++ [s]) = Zhz v r + if 0 ≤ s then v s.toNat else 0 := by
 unfold Zhz
 rw [Q1, List.sum_append]
 simp
def Z6x (R : List (List Int)) (W : List Int) (p : Nat) (r L : List Int) : Prop := L.length = R.length ∧ ∀ v : Nat → Int, dot L v = ((List.range p).map fun q => W.getD q 0 * Zhz v (R.getD q [])).sum + W.getD p 0 * Zhz v r
theorem wp_step {R : List (List Int)} {W : List Int} {p : Nat} {r L : List Int} {s x : Int} (h : Z6x R W p r L) (h0 : 0 ≤ s) (hx : L[s.toNat]? = some x) : Z6x R W p (r ++ [s]) (L.set s.toNat (x + W.getD p 0)) := by
 refine ⟨by rw [Lf]; exact h.1, fun v => ?_⟩
 rw [Z2p hx, h.2 v, Znb, if_pos h0, Int.mul_add]
 omega
abbrev cxA (CX : CXT) (P : Program) (w : World) (K : PySem.W.Frag) (mg : Str → Option Value) (base : Heap) (N : List Str) (qual : Str) (scope : Scope) (f : Addr) (cd : Value) (A : Around) (outer : List Env) (s : Shared) (H : Hp) (E : XK) : Cx :=
 { prog := P, w := w, K := K, mg := mg, base := base, A := A.deeper (envOfC qual scope s.heap.objs.size f cd), N := N, s_0 := s, H_0 := H, env := envOfC qual scope s.heap.objs.size f cd, outer := outer, stack := envOfC qual scope s.heap.objs.size f cd :: outer, ex := [], fn := fun _ => true, calm := true, pn := [],
   xe := fun e s' => wpAny (model P w) (A.deeper (envOfC qual scope s.heap.objs.size f cd)) (leaving (envOfC qual scope s.heap.objs.size f cd) e) (fun _ s'' => CX outer H s E e s'') (fun e' s'' => CX outer H s E e' s'') s' }
section
variable {P : Program} {w : World} {K : PySem.W.Frag} {mg : Str → Option Value} {base : Heap} {cs : List Cn} {CX : CXT} {x qual : Str} {params : Arguments} {body : List Stmt} {scope : Scope} {dvs : List V} {kws : List (Str × V)} {f : Addr} {fd : FuncData} {N ps : List Str} {k : Nat} {g : DSp} {r : DX → DS}
def KB (CX : CXT) (P : Program) (w : World) (K : PySem.W.Frag) (mg : Str → Option Value) (base : Heap) (cs : List Cn) (N : List Str) (qual : Str) (scope : Scope) (f : Addr) (k : Nat) (body : List Stmt) (r : DX → DS) : Prop :=
 ∀ (cdv : Value) (A : Around) (outer : List Env) (s : Shared) (H : Hp) (E : XK) (c : CS) (M : Mem) (Ed : DX), N.Nodup → Room k (A.deeper (envOfC qual scope s.heap.objs.size f cdv)) → PoX ⟨K, cs, c, M⟩ c M Ed E →
  ∃ t, SimS ⟨K, cs, c, M⟩ t (r Ed) ∧ PSs (cxA CX P w K mg base N qual scope f cdv A outer s H E) body t
theorem fnA (F : FunD K x qual params body scope dvs kws f fd) (S : FnScope N ps scope) (hl : ∀ ds M Q E, g ds M Q E → ds.length = ps.length)
  (ref : ∀ ds M Q E, g ds M Q E → r (Zbf M E) { nx := fun _ M' => Zad M Q (.v .non) M', rt := Zad M Q } (Zae N.length ds) M)
  (h : KB CX P w K mg base cs N qual scope f k body r) : FnOk P w K mg base CX (k + 1) f fd ps (spD K cs g) := by
 refine F.ok S (Zdi hl) (fun cdv A outer s H vs Q E hr hsp => ?_)
 obtain ⟨c, M, ds, Qd, Ed, rfl, rl, ra, hg, hq, he⟩ := hsp
 have hq' : ∀ c' M' v d, Step c M c' M' → Rel K cs c' M' → RpD K cs c'.F c'.ρ d v → Zad M Qd d M' → Q v c'.H := fun c' M' v d s r p ⟨q1, q2, q3⟩ => by
  obtain ⟨r2, s2, e2⟩ := rl.cut r s q2
  exact hq ⟨c'.F, c'.ρ.take M.length, c'.H⟩ _ v d s2 r2 (p.low q1) q3
 have he' : ∀ c' M' cls d e, Step c M c' M' → Rel K cs c' M' → RpX K cs c' e cls d → Zbf M Ed e M' → E cls d c'.H := fun c' M' cls d e s r p ⟨q2, q3⟩ => by
  obtain ⟨r2, s2, e2⟩ := rl.cut r s q2
  exact he ⟨c'.F, c'.ρ.take M.length, c'.H⟩ _ cls d e s2 r2 p q3
 obtain ⟨t, hs, hp⟩ := h cdv A outer s c.H E c M (Zbf M Ed) S.nd hr he'
 exact ⟨t, hp, hs c M (L2.start N vs) (Zae N.length ds) _ { nx := fun _ M' => Zad M Qd (.v .non) M', rt := Zad M Qd } ⟨Step.refl _ _, rl⟩ (Ze8 ra) (ref ds M Qd Ed hg) ⟨fun c' M' σ' ds' s r _ q => hq' c' M' .non (.v .non) s r rfl q, fun c' M' v d s r p q => hq' c' M' v d s r p q, fun _ _ _ _ _ _ _ q => q.elim, fun _ _ _ _ _ _ _ q => q.elim⟩⟩
theorem fnK (F : FunD K x qual params body scope dvs kws f fd) (S : FnScope N ps scope) (hl : ∀ ds M Q E, g ds M Q E → ds.length = ps.length)
  (ref : ∀ ds M Q E, g ds M Q E → r E { nx := fun _ M' => Q (.v .non) M', rt := Q } (Zae N.length ds) M)
  (h : KB CX P w K mg base cs N qual scope f k body r) : FnOk P w K mg base CX (k + 1) f fd ps (spD K cs g) := by
 refine F.ok S (Zdi hl) (fun cdv A outer s H vs Q E hr hsp => ?_)
 obtain ⟨c, M, ds, Qd, Ed, rfl, rl, ra, hg, hq, he⟩ := hsp
 obtain ⟨t, hs, hp⟩ := h cdv A outer s c.H E c M Ed S.nd hr he
 exact ⟨t, hp, hs c M (L2.start N vs) (Zae N.length ds) _ { nx := fun _ M' => Qd (.v .non) M', rt := Qd } ⟨Step.refl _ _, rl⟩ (Ze8 ra) (ref ds M Qd Ed hg) ⟨fun c' M' σ' ds' s r _ q => hq c' M' .non (.v .non) s r rfl q, fun c' M' v d s r p q => hq c' M' v d s r p q, fun _ _ _ _ _ _ _ q => q.elim, fun _ _ _ _ _ _ _ q => q.elim⟩⟩
end
class KFn (P : Program) (w : World) (K : PySem.W.Frag) (mg : Str → Option Value) (base : Heap) (cs : List Cn) (g : DSp) (k : outParam Nat) (x : outParam (Option Str)) (f : outParam Addr) (fd : outParam FuncData) (ps : outParam (List Str)) : Prop where
 ok : FnOk P w K mg base (L2.CX P w) k f fd ps (spD K cs g)
 bi : Binds K fd ps []
 kp : PySem.W.keepIn K (.ref f) = true
 gl : ∀ y, x = some y → mg y = some (.ref f)
class KGl (mg : Str → Option Value) (x : Str) (u : outParam (Option Value)) : Prop where
 is : mg x = u
class KMk (K : PySem.W.Frag) (c : Cn) (f : outParam Addr) : Prop where
 mks : Mk K (ga K c.str) f
class KMo (P : Program) (w : World) (K : PySem.W.Frag) (mg : Str → Option Value) (base : Heap) (cs : List Cn) (g : Cn → Option DSp) (m : outParam Str) (k : outParam Nat) : Prop where
 ok : ∀ C sp, okM K cs g C sp → Zjm P w K mg base (L2.CX P w) k m C sp []
class KXc (P : Program) (w : World) (K : PySem.W.Frag) (mg : Str → Option Value) (base : Heap) (c : Cn) (sp : outParam Sp) (f : outParam Addr) (fd : outParam FuncData) (ps : outParam (List Str)) : Prop where
 x : XCls K (ga K c.str)
 i : PySem.W.findIn K (.ref (ga K c.str)) "__init__" = some (some (.ref f))
 ti : PySem.W.typeIn K (.ref f) = some (.type "function")
 ok : FnOk P w K mg base (L2.CX P w) 1 f fd ps sp
 bi : Binds K fd ps []
class KSp (K : PySem.W.Frag) (c : Cn) (m : Str) (f : outParam Addr) : Prop where
 me : Meth K (ga K c.str) m f
class KCv (K : PySem.W.Frag) (mg : Str → Option Value) (x f : Str) (v : outParam V) : Prop where
 cv : ∃ C, mg x = some (.ref C) ∧ CRead K C (.type "type") ∧ ∃ u, CVal K C (.type "type") f v u
class KNb (mg : Str → Option Value) (x : Str) (u : outParam Value) : Prop where
 is : mg x = none
 bt : bootBuiltins x = some u
class KMe (P : Program) (w : World) (K : PySem.W.Frag) (mg : Str → Option Value) (base : Heap) (cs : List Cn) (c : Cn) (g : DSp) (m : outParam Str) (k : outParam Nat) : Prop where
 ok : Zjm P w K mg base (L2.CX P w) k m (ga K c.str) (spD K cs g) []
section
variable {P : Program} {w : World} {K : PySem.W.Frag} {mg : Str → Option Value} {base : Heap} {cs : List Cn} {c : Cn} {g : DSp} {m : Str} {k j : Nat} {f : Addr} {fd : FuncData} {ps : List Str} {y : Option Str}
theorem kme [h : KMe P w K mg base cs c g m j] (hk : j ≤ k) : Zjm P w K mg base (L2.CX P w) k m (ga K c.str) (spD K cs g) [] := by
 obtain ⟨cl, f, fd, ps, ds, a, b, r⟩ := h.ok
 exact ⟨cl, f, fd, ps, ds, a, b.mono hk, r⟩
instance [h : KMe P w K mg base cs c g m k] : KMo P w K mg base cs (gm1 c g) m k := ⟨by
 rintro C sp ⟨q, hk, rfl, p, hg, rfl⟩
 obtain ⟨rfl, rfl⟩ := Zz4 hg
 exact h.ok⟩
theorem kraw [h : KFn P w K mg base cs g k y f fd ps] : FnR P w K mg base (L2.CX P w) k f (fun vs => spD K cs g (vs ++ [])) := FnOk.raw h.ok h.bi .nil
theorem kbN {x qual : Str} {params : Arguments} {body : List Stmt} {scope : Scope} {kws : List (Str × V)} (F : FunD K x qual params body scope [] kws f fd)
  (h : ∀ (kV doc pm : Value) (an : Option Addr) (cdv ct : Value) (us : List Value), us.length = ps.length → bindArgs (PySem.W.fnOf x qual params body scope .none kV doc pm an cdv ct) ⟨us, []⟩ = pure (ps.zip us)) : Binds K fd ps [] := F.bindsN h
end
class KFk (P : Program) (w : World) (K : PySem.W.Frag) (mg : Str → Option Value) (base : Heap) (cs : List Cn) (g : DSp) (k : outParam Nat) (f : outParam Addr) (fd : outParam FuncData) (ps : outParam (List Str)) (n : outParam Nat) (ks : outParam (List Str)) : Prop where
 ok : FnOk P w K mg base (L2.CX P w) k f fd ps (spD K cs g)
 kb : KBn K fd ps n ks (fun us ws => us ++ ws) (fun vs zs => vs ++ zs)
class KNe (K : PySem.W.Frag) (c : Cn) : Prop where
 ne : NeC K (ga K c.str)
class KFs (P : Program) (w : World) (K : PySem.W.Frag) (mg : Str → Option Value) (base : Heap) (cs : List Cn) (g : DSp) (k : outParam Nat) (f : outParam Addr) : Prop where
 ok : FnR P w K mg base (L2.CX P w) k f (Zh5 2 (spD K cs g))
class KCm (P : Program) (w : World) (K : PySem.W.Frag) (mg : Str → Option Value) (base : Heap) (cs : List Cn) (c : Cn) (g : DSp) (m : outParam Str) (k : outParam Nat) : Prop where
 ex : ∃ p f, CRead K (ga K c.str) (.type "type") ∧ CMet K (ga K c.str) (.type "type") m p f ∧ FnR P w K mg base (L2.CX P w) k f (fun vs => spD K cs g (vs ++ []))
class KTb (K : PySem.W.Frag) (w : World) (kvs : List (List Nat × Int)) (y : outParam Str) : Prop where
 tb : TabD K w (ga K y) kvs
class KCs (K : PySem.W.Frag) (cs : List Cn) : Prop where
 ok : CsOk K cs
class KIs (K : PySem.W.Frag) (cs : List Cn) (tab : Kd → Option Bool) (tv : PV) : Prop where
 si : ∀ {c0 : CS} {M0 : Mem}, SimR ⟨K, cs, c0, M0⟩ (zIsi K) (uIsi tab tv)
section
variable {X : Cx} {e o a b : Expr} {es : List Expr} {t ta tr : TA} {te to tb : TE} {pos p apos : Pos} {E : XK} {g : DSp} {k j : Nat} {f : Addr} {fd : FuncData} {ps : List Str} {x m : Str} {cs : List Cn} {c : Cn}
def nmB (x : Str) : Bool := !(x == "__debug__" || x == "__classdict__" || x == "__name__")
theorem nm1 {x : Str} (h : nmB x = true) : (x == ("__debug__" : Str)) = false := by unfold nmB at h; cases e : x == ("__debug__" : Str) <;> simp_all
theorem nm2 {x : Str} (h : nmB x = true) : (x == ("__classdict__" : Str)) = false := by unfold nmB at h; cases e : x == ("__classdict__" : Str) <;> simp_all
theorem nm3 {x : Str} (h : nmB x = true) : x ≠ "__name__" := by
 unfold nmB at h
 rintro rfl
 revert h
 decide +kernel
def visB (sc : Scope) (x : Str) : Bool := match sc.names.lookup x with | some .local => true | some .cell => true | some .free => true | _ => false
theorem Z3e {sc : Scope} {x : Str} (h : visB sc x = true) : Vis sc x := by
 unfold visB at h
 unfold Vis
 split at h
 ·exact .inl (by assumption)
 ·exact .inr (.inl (by assumption))
 ·exact .inr (.inr (by assumption))
 ·cases h
def locB (sc : Scope) (x : Str) : Bool := match sc.names.lookup x with | some .local => true | some .cell => true | _ => false
theorem Zuv {sc : Scope} {x : Str} (h : locB sc x = true) : L2.Loc sc x := by
 unfold locB at h
 unfold L2.Loc
 split at h
 ·exact .inl (by assumption)
 ·exact .inr (by assumption)
 ·cases h
def fnB (X : Cx) (x : Str) : Bool := X.fn x || (match X.env.scope.names.lookup x with | some .local => true | _ => false)
theorem Zvt {X : Cx} {x : Str} (h : fnB X x = true) : X.fn x = true ∨ X.env.scope.names.lookup x = some .local := by
 unfold fnB at h
 rcases Bool.or_eq_true_iff.mp h with h | h
 ·exact .inl h
 ·split at h
  ·exact .inr (by assumption)
  ·cases h
theorem gBt {b : Bool} (h : b = true) : b = true := h
theorem gBf {b : Bool} (h : b = false) : b = false := h
theorem gLe2 {a b : List (Bool × Sem Value)} (h : a = b) : a = b := h
theorem gOs {a b : Option Str} (h : a = b) : a = b := h
theorem gOk {a b : Option NameKind} (h : a = b) : a = b := h
theorem gSt {a b : Str} (h : a = b) : a = b := h
theorem gEq {α : Sort _} {a b : α} (h : a = b) : a = b := h
theorem gOr {a b : Prop} (h : a ∨ b) : a ∨ b := h
theorem gPE (h : PE X e te) : PE X e te := h
theorem gPA (h : PA X es t) : PA X es t := h
theorem gPT {t : TT} (h : L2.PT X e t) : L2.PT X e t := h
theorem gPS {s : Stmt} {t : TS} (h : PS X s t) : PS X s t := h
theorem gPSs {s : List Stmt} {t : TS} (h : PSs X s t) : PSs X s t := h
theorem kV {i : Nat} (hN : X.N[i]? = some x) (hv : visB X.env.scope x = true) (hd : nmB x = true) : PE X (.Name x pos) (tVar i) := pe_var hN (Z3e hv) (nm1 hd) (nm2 hd)
theorem kFld {fl : Fd} {ta : TE} (he : PE X e ta) (hf : x = fl.str) (hb : attributeBase e x X.env (eval e X.env) = eval e X.env) : PE X (.Attribute e x pos) (tFld X.K ta fl.str) := by subst hf; exact pe_fld he hb
theorem kStF {fl : Fd} {value : Expr} {pos' : Pos} {ta tv : TE} (ha : PE X o ta) (hv : PE X value tv) (hf : x = fl.str) (hs : swapsWith value (some (.Attribute o x pos')) pos.line X.env = pure false) : PS X (.Assign [.Attribute o x pos'] value pos) (sFld X.K ta tv fl.str) := by subst hf; exact ps_fld ha hv hs
theorem kTru {ta : TE} (ha : PE X a ta) (he : ∀ whole : Sem Value, isTrue a X.env whole = (do let v ← whole; standAt a.pos; holding [v] (truthy v))) : L2.PT X a (tTru X.K ta) := pt_truth ha he
theorem kGlo {u : Value} {v : V} [h : KGl X.mg x (some u)] (hg : L2.Gl X x) (r : RelV v u) (hd : nmB x = true) : PE X (.Name x pos) (tC v) := pe_glob hg h.is r (nm1 hd)
theorem kBlt {u : Value} {v : V} [h : KNb X.mg x u] (hg : L2.Gl X x) (r : RelV v u) (hd : nmB x = true) : PE X (.Name x pos) (tC v) := pe_bltn hg h.is h.bt r (nm3 hd) (nm1 hd)
theorem kCB {id : String} {r : List V → Hp → VK → Prop} [h : KNb X.mg x (.builtin id)] (hc : CallR X (.builtin id) r) (ha : PA X (e :: es) t) (hg : L2.Gl X x) (hd : nmB x = true)
  (hs : starEach (e :: es) X.env = (false, eval e X.env) :: starEach es X.env) (hp : (backTo pos (starEach es X.env)).any (·.1) = false) : PE X (.Call (.Name x p) (e :: es) [] pos) (tCB r t) := pe_callB hc hg h.is h.bt ha (nm3 hd) (nm1 hd) hs hp
theorem kCT {T : String} {r : List V → Hp → VK → Prop} [h : KNb X.mg x (.type T)] (hc : CallR X (.type T) r) (ha : PA X (e :: es) t) (hg : L2.Gl X x) (hd : nmB x = true)
  (hs : starEach (e :: es) X.env = (false, eval e X.env) :: starEach es X.env) (hp : (backTo pos (starEach es X.env)).any (·.1) = false) : PE X (.Call (.Name x p) (e :: es) [] pos) (tCB r t) := pe_callTy hc hg h.is h.bt ha (nm3 hd) (nm1 hd) hs hp
theorem Z81 [F : KFn X.prog X.w X.K X.mg X.base cs g k (some x) f fd ps] (hr : Room j X.A) (hk : k ≤ j) (hg : L2.Gl X x) (hx : Passes (L2.CX X.prog X.w) X E) (ha : PA X (e :: es) t) (hd : nmB x = true)
  (hs : starEach (e :: es) X.env = (false, eval e X.env) :: starEach es X.env) (hp : (backTo pos (starEach es X.env)).any (·.1) = false) : PE X (.Call (.Name x p) (e :: es) [] pos) (tCall (spD X.K cs g) [] E t) :=
 pe_call F.ok (hr.mono hk) hg (F.gl _ rfl) F.kp F.bi .nil hx ha (nm1 hd) hs hp
theorem Z8v {C : Value} [M : KMk X.K c f] [F : KFn X.prog X.w X.K X.mg X.base cs g k none f fd ps] [h : KGl X.mg x (some C)] (hC : C = .ref (ga X.K c.str)) (hr : Room j X.A) (hk : k + 1 ≤ j) (hg : L2.Gl X x) (hx : Passes (L2.CX X.prog X.w) X E) (ha : PA X (e :: es) t) (hd : nmB x = true)
  (hs : starEach (e :: es) X.env = (false, eval e X.env) :: starEach es X.env) (hp : (backTo pos (starEach es X.env)).any (·.1) = false) : PE X (.Call (.Name x p) (e :: es) [] pos) (tMake (ga X.K c.str) (spD X.K cs g) [] E t) :=
 pe_make M.mks F.ok (hr.mono hk) hg (h.is.trans (congrArg some hC)) F.bi .nil hx ha (nm1 hd) hs hp
theorem Z8u {gm : Cn → Option DSp} {pl : Sem Bool} [F : KMo X.prog X.w X.K X.mg X.base cs gm m k] (ho : PE X o to) (hr : Room j X.A) (hk : k ≤ j) (hx : Passes (L2.CX X.prog X.w) X E) (ha : PA X (e :: es) t)
  (hs : starEach (e :: es) X.env = (false, eval e X.env) :: starEach es X.env) (hp : (backTo pos (starEach es X.env)).any (·.1) = false)
  (ht : eval (.Call (.Attribute o m apos) (e :: es) [] pos) X.env = (do
   let ov ← eval o X.env
   standAt apos.atName
   let (f, first) ← holding [ov] (getMethod ov m pl)
   callWith pos f first (backTo pos (starEach (e :: es) X.env)) (backToKw pos (keywordEach [] X.env)))) : PE X (.Call (.Attribute o m apos) (e :: es) [] pos) (Zdt (okM X.K cs gm) m [] E to t) :=
 Zea ho F.ok (hr.mono hk) hx ha hs hp ht
theorem Z51 {gm : Cn → Option DSp} {pl : Sem Bool} [F : KMo X.prog X.w X.K X.mg X.base cs gm m k] (ho : PE X o to) (hr : Room j X.A) (hk : k ≤ j) (hx : Passes (L2.CX X.prog X.w) X E)
  (ht : eval (.Call (.Attribute o m apos) [] [] pos) X.env = (do
   let ov ← eval o X.env
   standAt apos.atName
   let (f, first) ← holding [ov] (getMethod ov m pl)
   callWith pos f first (backTo pos (starEach [] X.env)) (backToKw pos (keywordEach [] X.env)))) : PE X (.Call (.Attribute o m apos) [] [] pos) (Zdt (okM X.K cs gm) m [] E to tNil) :=
 Zue ho F.ok (hr.mono hk) hx ht
theorem Z8t {C : Value} {sp : Sp} [F : KXc X.prog X.w X.K X.mg X.base c sp f fd ps] [h : KGl X.mg x (some C)] (hC : C = .ref (ga X.K c.str)) (hc : X.calm = true) (tk : L2.Takes X fun cls d _ H => E cls d H) (hr : Room j X.A) (hk : 2 ≤ j) (hg : L2.Gl X x) (ha : PA X (e :: es) t) (hd : nmB x = true)
  (hs : starEach (e :: es) X.env = (false, eval e X.env) :: starEach es X.env) (hp : (backTo pos (starEach es X.env)).any (·.1) = false) : PS X (.Raise (some (.Call (.Name x p) (e :: es) [] pos)) none apos) (Zc2 E (ga X.K c.str) sp t) :=
 ps_raise hc tk (pmk_oex F.x.o F.i F.ti F.ok (hr.mono hk) F.bi .nil passL hg (h.is.trans (congrArg some hC)) ha (nm1 hd) hs hp)
theorem kLc {elt tg iter : Expr} {ifs : List Expr} {scope : Scope} {wi : TI} {gt : TG} {tt : TT} {vs : List Nat} (hc : X.calm = true) (hN : X.N.Nodup) (hi : PI X tg iter wi) (ok : blkC X.N X.env.scope scope (vs.map fun i => (X.N.getD i default, i)) = true)
  (hg : ∀ (s : Shared) (H : Hp) (C : Addr) (cl : List (Str × Addr)) (fp : List Addr), PG (X.blk s H scope (compEnvC scope cl C X.env) fp) tg gt) (ht : ∀ (s : Shared) (H : Hp) (C : Addr) (cl : List (Str × Addr)) (fp : List Addr), PTs (X.blk s H scope (compEnvC scope cl C X.env) fp) ifs tt)
  (he : ∀ (s : Shared) (H : Hp) (C : Addr) (cl : List (Str × Addr)) (fp : List Addr), PE (X.blk s H scope (compEnvC scope cl C X.env) fp) elt te) (hs : ∀ x, foldedSetIterable iter X.env x = pure x) :
  PE X (.ListComp elt [⟨tg, iter, ifs, 0⟩] scope pos) (tLc wi gt tt te vs) := by
 have e : (vs.map fun i => ((X.N.getD i default, i) : Str × Nat)).map (·.2) = vs := by rw [Qk]; exact L4 _
 have h := pe_lc (pos := pos) hc hN hi (blkOk_by ok) hg ht he hs
 rw [e] at h
 exact h
theorem Z5z {i : Nat} {y : Str} {py spos : Pos} {elt tg iter : Expr} {ifs : List Expr} {scope : Scope} {wi : TI} {gt : TG} {tt : TT} {vs : List Nat} (h2 : X.env.scope.names.lookup y = some .local) (hc : X.calm = true) (hN : X.N.Nodup) (hi : PI X tg iter wi) (h1 : X.N[i]? = some y) (hk : X.env.scope.kind = .function) (hl : (py.line == spos.line) = true)
  (hw : (scope.names.any fun x => match x with | (n, k) => n == y && (k == NameKind.local || k == NameKind.cell)) = false)
  (ok : blkC X.N X.env.scope scope (vs.map fun i => (X.N.getD i default, i)) = true)
  (hg : ∀ (s : Shared) (H : Hp) (C : Addr) (cl : List (Str × Addr)) (fp : List Addr), PG (X.blk s H scope (compEnvC scope cl C X.env) fp) tg gt) (ht : ∀ (s : Shared) (H : Hp) (C : Addr) (cl : List (Str × Addr)) (fp : List Addr), PTs (X.blk s H scope (compEnvC scope cl C X.env) fp) ifs tt)
  (he : ∀ (s : Shared) (H : Hp) (C : Addr) (cl : List (Str × Addr)) (fp : List Addr), PE (X.blk s H scope (compEnvC scope cl C X.env) fp) elt te) (hs : ∀ x, foldedSetIterable iter X.env x = pure x) :
  PS X (.Assign [.Name y py] (.ListComp elt [⟨tg, iter, ifs, 0⟩] scope spos) pos) (tAsg (tLc wi gt tt te vs) (gName i)) := by
 have e : (vs.map fun i => ((X.N.getD i default, i) : Str × Nat)).map (·.2) = vs := by rw [Qk]; exact L4 _
 have h := ps_setLc (pos := spos) (spos := pos) (py := py) hc hN h1 h2 (sw_true hk h2 hl hw) hi (blkOk_by ok) hg ht he hs
 rw [e] at h
 exact h
theorem Z52 {C : Value} {kws : List Keyword} {tk : TA} {n nk m : Nat} {ks : List Str} [M : KMk X.K c f] [F : KFk X.prog X.w X.K X.mg X.base cs g k f fd ps m ks] [h : KGl X.mg x (some C)] (hkw : PK X kws tk) (hks : (backToKw pos (keywordEach kws X.env)).filterMap (·.1) = ks) (hn : nk = ks.length) (hm : m = n + 1) (hC : C = .ref (ga X.K c.str)) (hr : Room j X.A) (hk : k + 1 ≤ j) (hg : L2.Gl X x) (hx : Passes (L2.CX X.prog X.w) X E) (ha : PA X (e :: es) t)
  (hall : (backToKw pos (keywordEach kws X.env)).all (·.1.isSome) = true) (hd : nmB x = true)
  (he : starEach (e :: es) X.env = (false, eval e X.env) :: starEach es X.env) (hpl : ((backTo pos (starEach (e :: es) X.env)).any (·.1) || (backToKw pos (keywordEach kws X.env)).any (·.1.isNone)) = false) :
  PE X (.Call (.Name x p) (e :: es) kws pos) (tMakeK (ga X.K c.str) n nk (spD X.K cs g) (fun vs zs => vs ++ zs) E t tk) := by
 subst hn hm
 exact pe_makeK M.mks F.ok (hr.mono hk) hg (h.is.trans (congrArg some hC)) F.kb hx ha hkw hall hks (nm1 hd) he hpl
theorem Z80 {pc : Pos} {fl : Str} {u : V} [V : KCv X.K X.mg x fl u] (hg : L2.Gl X x) (hd : nmB x = true) (hb : attributeBase (.Name x pc) fl X.env (eval (.Name x pc) X.env) = eval (.Name x pc) X.env) : PE X (.Attribute (.Name x pc) fl pos) (tC u) := by
 obtain ⟨C, hC, cr, w, q⟩ := V.cv
 have h1 := pe_cval (pos := pos) (pe_glob (pos := pc) hg hC (show RelV (.ref C) _ from rfl) (nm1 hd)) hb
 exact ⟨fun pins s σ H Q I r => h1.run pins s σ H Q I ⟨_, _, _, _, rfl, cr, q, r⟩⟩
theorem kEq (hr : Room k X.A) : OpR X (compareOp .Eq) (zEq X.K) := Z79 (hu64 hr)
theorem kNe (hr : Room k X.A) : OpR X (compareOp .NotEq) (zNe X.K) := Z1n (hu64 hr)
theorem kIn (hr : Room k X.A) : OpR X (compareOp .In) (zIn X.K) := Z77 (hu64 hr)
theorem Z50 (hr : Room k X.A) : OpR X (compareOp .NotIn) (Zm3 X.K) := Zxh (hu64 hr)
theorem Zx1 (hr : Room k X.A) : OpR X (compareOp .NotIn) (Zxd X.K true) := Zsd (hu65 hr)
theorem kNeI [F : KFn X.prog X.w X.K X.mg X.base cs g k none f fd ps] [S : KSp X.K c "__eq__" f] [n : KNe X.K c] (hr : Room j X.A) (hk : k + 1 ≤ j) : OpR X (compareOp .NotEq) (rNeI (ga X.K c.str) (spD X.K cs g) E0) := Zzf F.ok (hr.mono hk) S.me n.ne F.bi passL
theorem Z8y [F : KFn X.prog X.w X.K X.mg X.base cs g k none f fd ps] [S : KSp X.K c "__len__" f] (hr : Room j X.A) (hk : k + 1 ≤ j) : CallR X (.builtin "len") (Z0k (ga X.K c.str) (spD X.K cs g) E0) := Z2v F.ok (hr.mono hk) S.me F.bi passL
theorem kApp (ho : PE X o to) (ha : PA X (e :: es) t) (h1 : attributeBase o "append" X.env (eval o X.env) = eval o X.env) (h2 : ((backTo pos (starEach (e :: es) X.env)).all (fun x => !x.1) && (backToKw pos (keywordEach [] X.env)).all (fun x => x.1.isSome) && decide ((e :: es).length + ([] : List Keyword).length + (if ([] : List Keyword).isEmpty then 0 else 1) < 30)) = true) (h3 : (apos.endLine == pos.line) = true)
  (hs : starEach (e :: es) X.env = (false, eval e X.env) :: starEach es X.env) (hp : (backTo pos (starEach es X.env)).any (·.1) = false) : PE X (.Call (.Attribute o "append" apos) (e :: es) [] pos) (tBM X.K "list" zApp to t) := pe_bm PySem.F.plainAttrs_list PySem.F.slot_list_append PySem.F.type_list_append Z4x ho ha h1 h2 h3 hs hp
theorem Z8z (ho : PE X o to) (ha : PA X (e :: es) t) (h1 : attributeBase o "join" X.env (eval o X.env) = eval o X.env) (h2 : ((backTo pos (starEach (e :: es) X.env)).all (fun x => !x.1) && (backToKw pos (keywordEach [] X.env)).all (fun x => x.1.isSome) && decide ((e :: es).length + ([] : List Keyword).length + (if ([] : List Keyword).isEmpty then 0 else 1) < 30)) = true) (h3 : (apos.endLine == pos.line) = true)
  (hs : starEach (e :: es) X.env = (false, eval e X.env) :: starEach es X.env) (hp : (backTo pos (starEach es X.env)).any (·.1) = false) : PE X (.Call (.Attribute o "join" apos) (e :: es) [] pos) (tBM X.K "str" (Zwt X.K) to t) := pe_bm PySem.F.plainAttrs_str PySem.F.slot_str_join PySem.F.type_str_join Z1t ho ha h1 h2 h3 hs hp
theorem Z5y (ho : PE X o to) (ha : PA X (e :: es) t) (h1 : attributeBase o "split" X.env (eval o X.env) = eval o X.env) (h2 : ((backTo pos (starEach (e :: es) X.env)).all (fun x => !x.1) && (backToKw pos (keywordEach [] X.env)).all (fun x => x.1.isSome) && decide ((e :: es).length + ([] : List Keyword).length + (if ([] : List Keyword).isEmpty then 0 else 1) < 30)) = true) (h3 : (apos.endLine == pos.line) = true)
  (hs : starEach (e :: es) X.env = (false, eval e X.env) :: starEach es X.env) (hp : (backTo pos (starEach es X.env)).any (·.1) = false) : PE X (.Call (.Attribute o "split" apos) (e :: es) [] pos) (tBM X.K "str" Zqm to t) := pe_bm PySem.F.plainAttrs_str PySem.F.slot_str_split PySem.F.type_str_split Zxn ho ha h1 h2 h3 hs hp
theorem kRg1 {tg : Expr} {u : Value} [h : KNb X.mg "range" u] (ha : PA X [a] ta) (hg : L2.Gl X "range") (hs : starEach [a] X.env = [(false, eval a X.env)]) : PI X tg (.Call (.Name "range" p) [a] [] pos) (iRng1 ta) := pi_range1 hg h.is ha hs
theorem Z8w {fe : Expr} {tf : TE} [M : KMk X.K c f] [F : KFs X.prog X.w X.K X.mg X.base cs g k f] (hf : PE X fe tf) (hr : Room j X.A) (hk : k + 1 ≤ j) (hx : Passes (L2.CX X.prog X.w) X E) (ha : PA X (e :: es) t)
  (ht : eval (.Call fe (e :: es) [] pos) X.env = (do callWith pos (← eval fe X.env) [] (backTo pos (starEach (e :: es) X.env)) (backToKw pos (keywordEach [] X.env))))
  (hs : starEach (e :: es) X.env = (false, eval e X.env) :: starEach es X.env) (hp : (backTo pos (starEach es X.env)).any (·.1) = false) : PE X (.Call fe (e :: es) [] pos) (Ze6 (ga X.K c.str) (Zh5 2 (spD X.K cs g)) E tf t) := Zq5 hf M.mks F.ok (hr.mono hk) hx ha ht hs hp
theorem Z53 {fe : Expr} {tf : TE} [M : KMk X.K c f] [F : KFs X.prog X.w X.K X.mg X.base cs g k f] (hp : (backTo pos (starEach es X.env)).any (·.1) = true) (hf : PE X fe tf) (hr : Room j X.A) (hk : k + 1 ≤ j) (hx : Passes (L2.CX X.prog X.w) X E) (ha : PA X (e :: es) t)
  (ht : eval (.Call fe (e :: es) [] pos) X.env = (do callWith pos (← eval fe X.env) [] (backTo pos (starEach (e :: es) X.env)) (backToKw pos (keywordEach [] X.env))))
  (hs : starEach (e :: es) X.env = (false, eval e X.env) :: starEach es X.env) : PE X (.Call fe (e :: es) [] pos) (Ze6 (ga X.K c.str) (Zh5 2 (spD X.K cs g)) E tf t) := Zuf hf M.mks F.ok (hr.mono hk) hx ha ht hs hp
theorem Z8x {fe : Expr} {tf : TE} [M : KMk X.K c f] [F : KFn X.prog X.w X.K X.mg X.base cs g k none f fd ps] (hf : PE X fe tf) (hr : Room j X.A) (hk : k + 1 ≤ j) (hx : Passes (L2.CX X.prog X.w) X E) (ha : PA X (e :: es) t)
  (ht : eval (.Call fe (e :: es) [] pos) X.env = (do callWith pos (← eval fe X.env) [] (backTo pos (starEach (e :: es) X.env)) (backToKw pos (keywordEach [] X.env))))
  (hs : starEach (e :: es) X.env = (false, eval e X.env) :: starEach es X.env) (hp : (backTo pos (starEach es X.env)).any (·.1) = false) : PE X (.Call fe (e :: es) [] pos) (Ze6 (ga X.K c.str) (fun vs => spD X.K cs g (vs ++ [])) E tf t) := Zq5 hf M.mks (FnOk.raw F.ok F.bi .nil) (hr.mono hk) hx ha ht hs hp
theorem Z54 {pl : Sem Bool} [F : KCm X.prog X.w X.K X.mg X.base cs c g m k] (ho : PE X o to) (hr : Room j X.A) (hk : k ≤ j) (hx : Passes (L2.CX X.prog X.w) X E) (ha : PA X (e :: es) t)
  (hs : starEach (e :: es) X.env = (false, eval e X.env) :: starEach es X.env) (hp : (backTo pos (starEach es X.env)).any (·.1) = false)
  (ht : eval (.Call (.Attribute o m apos) (e :: es) [] pos) X.env = (do
   let ov ← eval o X.env
   standAt apos.atName
   let (f, first) ← holding [ov] (getMethod ov m pl)
   callWith pos f first (backTo pos (starEach (e :: es) X.env)) (backToKw pos (keywordEach [] X.env)))) : PE X (.Call (.Attribute o m apos) (e :: es) [] pos) (tCMeth (ga X.K c.str) (fun vs => spD X.K cs g (vs ++ [])) E to t) := by
 obtain ⟨p, f, cr, cm, ok⟩ := F.ex
 exact pe_cmeth ho cr cm ok (hr.mono hk) hx ha hs hp ht
theorem Z2a {kvs : List (List Nat × Int)} {y : Str} [T : KTb X.K X.w kvs y] : OpR X (compareOp .NotIn) (Zl5 kvs (ga X.K y)) := Zuh T.tb
theorem kIxT {kvs : List (List Nat × Int)} {y : Str} [T : KTb X.K X.w kvs y] : IxR X (Cl.rIxT kvs (ga X.K y)) := ix_T T.tb
theorem kSet {pos' : Pos} {i : Nat} (he : PE X e te) (hN : X.N.Nodup) (hi : X.N[i]? = some x) (hx : locB X.env.scope x = true) (hs : swapsWith e (some (.Name x pos')) pos.line X.env = pure false) (hf : fnB X x = true) : PS X (.Assign [.Name x pos'] e pos) (tAsg te (gName i)) := ps_set hN hi (Zuv hx) he hs (Zvt hf)
theorem kGn {i : Nat} (hN : X.N.Nodup) (hi : X.N[i]? = some x) (hx : locB X.env.scope x = true) (hf : fnB X x = true) : PG X (.Name x pos) (gName i) := pg_name hN hi (Zuv hx) (Zvt hf)
theorem kAug {pos' : Pos} {i : Nat} (he : PE X e te) (hN : X.N.Nodup) (hi : X.N[i]? = some x) (hx : locB X.env.scope x = true) (hf : fnB X x = true) : PS X (.AugAssign (.Name x pos') .Add e pos) (tAug i te (ipI fun i j => i + j)) := ps_aug hN hi (Zuv hx) he ip_add (Zvt hf)
end
section
variable {S : Sc} {c0 : CS} {M0 : Mem} {K : PySem.W.Frag} {cs : List Cn} {Ed : DX} {E : XK}
theorem kIsi {tab : Kd → Option Bool} {tv : PV} [h : KIs K cs tab tv] : SimR ⟨K, cs, c0, M0⟩ (zIsi K) (uIsi tab tv) := h.si
theorem kMem {k : Cn} (h : (cs.contains k) = true) : k ∈ (Sc.mk K cs c0 M0).cs := List.contains_iff_mem.mp h
theorem Zy5 {i : Int} : SimE S (tC (.int i)) (dC (.int i)) := Zjq fun _ => rfl
theorem Zy3 {z : List Nat} : SimE S (tC (sv z)) (dC (.str z)) := Zjq fun _ => rfl
theorem Zy7 {b : Bool} : SimE S (tC (.bl b)) (dC (.bl b)) := Zjq fun _ => rfl
theorem Zy4 : SimE S (tC .non) (dC .non) := Zjq fun _ => rfl
theorem Zy2 {n : String} : SimE S (tC (.ty n)) (dC (.ty n)) := Zjq fun _ => rfl
theorem Zy6 {c : Cn} : SimE S (tC (.ref (ga S.K c.str))) (dC (.cls c)) := Zjq fun _ => rfl
theorem rlN : ∀ F, RpL K cs F [] [] := fun _ => rfl
theorem exS {X : Cx} {b : List Stmt} {d : DS} {t : TS} (h1 : SimS S t d) (h2 : PSs X b t) : ∃ t, SimS S t d ∧ PSs X b t := ⟨t, h1, h2⟩
theorem gsE {t d} (h : SimE S t d) : SimE S t d := h
theorem gsS {t d} (h : SimS S t d) : SimS S t d := h
theorem gsT {t d} (h : SimT S t d) : SimT S t d := h
theorem gsA {t d} (h : SimA S t d) : SimA S t d := h
theorem gsO {t d} (h : SimO S t d) : SimO S t d := h
theorem gsR {t d} (h : SimR S t d) : SimR S t d := h
theorem gsM {t d} (h : SimM S t d) : SimM S t d := h
theorem gPo {c M} (h : PoX S c M Ed E) : PoX S c M Ed E := h
end
theorem gVis {sc : Scope} {x : Str} (h : Vis sc x) : Vis sc x := h
theorem gLoc {sc : Scope} {x : Str} (h : L2.Loc sc x) : L2.Loc sc x := h
theorem gGl {X : Cx} {x : Str} (h : X.env.kindOf x = some .globalImplicit) : L2.Gl X x := h
theorem Z85 {k : Nat} {A : Around} (h : Room k A) : Room k A := h
theorem gLe {j k : Nat} (h : j ≤ k) : j ≤ k := h
theorem gPas {CX : CXT} {X : Cx} {E : XK} (h : Passes CX X E) : Passes CX X E := h
theorem gNe {x y : Str} (h : x ≠ y) : x ≠ y := h
theorem gTak {X : Cx} {W : WX} (h : L2.Takes X W) : L2.Takes X W := h
theorem gAll {p : Shared → Hp → Addr → List (Str × Addr) → List Addr → Prop} (h : ∀ s H C cl fp, p s H C cl fp) : ∀ s H C cl fp, p s H C cl fp := h
theorem gPO {M : Model} {A : Around} {env : Env} {xe : Value → Shared → Prop} (h : PassesOwn M A env xe) : PassesOwn M A env xe := h
theorem gNL {α : Type} {a : α} {l : List α} : a :: l ≠ [] := Lv _ _
theorem kPw {X : Cx} {op : BoolOp} {es : List Expr} {pos : Pos} {t : TT} (h : PW X (.BoolOp op es pos) t) : L2.PT X (.BoolOp op es pos) t := h.pt
theorem gFa {α : Sort _} {β : Sort _} {a b : α → β} (h : ∀ x, a x = b x) : ∀ x, a x = b x := h
class KHm (g : Cn → Option DSp) (m : outParam Str) : Prop where
 hm : ∀ k, (g k).isSome = true → ∀ f ∈ k.flds, f.str ≠ m
theorem kHm {g : Cn → Option DSp} {m : Str} [h : KHm g m] : ∀ k, (g k).isSome = true → ∀ f ∈ k.flds, f.str ≠ m := h.hm
theorem gM2 {X : Cx} {o : Expr} {n : Str} {ap : Pos} {e f : Expr} {cp : Pos} (h : M2 X o n ap e f cp) : M2 X o n ap e f cp := h
theorem gLt {a b : Nat} (h : a < b) : a < b := h
theorem gOp {X : Cx} {f : Value → Value → Sem Value} {r : R2} (h : OpR X f r) : OpR X f r := h
theorem gCa {X : Cx} {f : Value} {r : List V → Hp → VK → Prop} (h : CallR X f r) : CallR X f r := h
theorem gRl {v : V} {u : Value} (h : RelV v u) : RelV v u := h
theorem gNd {l : List Str} (h : l.Nodup) : l.Nodup := h
theorem gPx {e : Expr} (h : PlainIx e) : PlainIx e := h
class SmE (P : Program) (w : World) (S : Sc) (t : outParam (TE)) (d : DE) : Prop where
 s : SimE S t d
class SmT (P : Program) (w : World) (S : Sc) (t : outParam (TT)) (d : DT) : Prop where
 s : SimT S t d
class SmA (P : Program) (w : World) (S : Sc) (t : outParam (TA)) (d : DA) : Prop where
 s : SimA S t d
class SmS (P : Program) (w : World) (S : Sc) (t : outParam (TS)) (d : DS) : Prop where
 s : SimS S t d
class SmO (P : Program) (w : World) (S : Sc) (t : outParam (R2)) (d : DR2) : Prop where
 s : SimO S t d
class SmR (P : Program) (w : World) (S : Sc) (t : outParam (List V → Hp → VK → Prop)) (d : DR) : Prop where
 s : SimR S t d
class SmM (P : Program) (w : World) (S : Sc) (t : outParam (V → List V → Hp → VK → Prop)) (d : DM) : Prop where
 s : SimM S t d
class SmG (P : Program) (w : World) (S : Sc) (t : outParam (TG)) (d : DG) : Prop where
 s : SimG S t d
class SmI (P : Program) (w : World) (S : Sc) (t : outParam (TI)) (d : DI) : Prop where
 s : SimI S t d
class SmP (P : Program) (w : World) (S : Sc) (t : outParam (TO)) (d : DO) : Prop where
 s : SimP S t d
class SmL (P : Program) (w : World) (S : Sc) (t : outParam (V → Option Int → Option Int → Hp → VK → Prop)) (d : D → Option Int → Option Int → Mem → DQ → Prop) : Prop where
 s : SimL S t d
class SmU (P : Program) (w : World) (S : Sc) (t : outParam (V → Hp → VK → Prop)) (d : D → Mem → DQ → Prop) : Prop where
 s : SimU S t d
class SmEs (P : Program) (w : World) (S : Sc) (t : outParam (List TE)) (d : List DE) : Prop where
 s : Zo0 S t d
class SmX (S : Sc) (Ed : DX) (E : outParam XK) : Prop where
 s : PoX S S.c0 S.M0 Ed E
instance {S : Sc} : SmX S noX E0 := ⟨Zl7⟩
class KIn (k : Cn) (cs : List Cn) : Prop where
 s : k ∈ cs
class SmD (S : Sc) (dv : List PV) (vv : outParam (List V)) : Prop where
 s : ∀ F, RpL S.K S.cs F dv vv
class KOw (g : TG) (vs : List Nat) : Prop where
 s : GOwn g vs
class KFl (k : Cn) (l : outParam (List Fd)) : Prop where
 s : k.flds = l
section
variable {S : Sc} {dv : List PV} {vv : List V}
instance : SmD S [] [] := ⟨rlN⟩
end
instance {i : Nat} : KOw (gName i) [i] := ⟨Zoh i⟩
theorem exSf {CX : CXT} {P : Program} {w : World} {K : PySem.W.Frag} {mg : Str → Option Value} {base : Heap} {N : List Str} {qual : Str} {scope : Scope} {f : Addr} {cdv : Value} {A : Around} {outer : List Env} {s : Shared} {H : Hp} {E : XK} {S : Sc} {b : List Stmt} {d : DS} {t : TS} [h : SmS P w S t d] (h2 : PSs (cxA CX P w K mg base N qual scope f cdv A outer s H E) b t) : ∃ t, SimS S t d ∧ PSs (cxA CX P w K mg base N qual scope f cdv A outer s H E) b t := ⟨t, h.s, h2⟩
instance : KFl .BadAlphabet [.part] := ⟨rfl⟩
instance : KFl .BadStage [.what] := ⟨rfl⟩
instance : KFl .TooMany [.number] := ⟨rfl⟩
instance {P : Program} {w : World} {S : Sc} {i : Nat}  : SmE P w S (tVar i) (dVar i) := ⟨Zaf⟩
instance {P : Program} {w : World} {S : Sc} {i : Int}  : SmE P w S (tC (V.int i)) (dC (PV.int i)) := ⟨Zy5⟩
instance {P : Program} {w : World} {S : Sc} {ta tb : TE} {da db : DE} {r : R2} {d : DR2} [h0 : SmO P w S r d] [h1 : SmE P w S ta da] [h2 : SmE P w S tb db] : SmE P w S (tOp r ta tb) (dOp d da db) := ⟨Zh7 h0.s h1.s h2.s⟩
instance {P : Program} {w : World} {S : Sc} {z : List Nat}  : SmE P w S (tC (sv z)) (dC (PV.str z)) := ⟨Zy3⟩
instance {P : Program} {w : World} {S : Sc} {tr : TA} {dr : DA} {r : List V → Hp → VK → Prop} {d : DR} [h0 : SmR P w S r d] [h1 : SmA P w S tr dr] : SmE P w S (tCB r tr) (dCB d dr) := ⟨Zty h0.s h1.s⟩
instance {P : Program} {w : World} {S : Sc} {tr : TA} {dr : DA} [h0 : SmA P w S tr dr] : SmE P w S (tLst tr) (dLst dr) := ⟨Zpd h0.s⟩
instance {P : Program} {w : World} {S : Sc} {tr : TA} {dr : DA} [h0 : SmA P w S tr dr] : SmE P w S (tTup tr) (dTup dr) := ⟨Zpc h0.s⟩
instance {P : Program} {w : World} {S : Sc} {ta : TE} {da : DE} {f : Fd} [h0 : KCs S.K S.cs] [h1 : SmE P w S ta da] : SmE P w S (tFld S.K ta f.str) (dFld da f) := ⟨Zpf h0.ok h1.s⟩
instance {P : Program} {w : World} {S : Sc} {tr : TA} {dr : DA} {g : DSp} {E : XK} {Ed : DX} [h0 : SmX S Ed E] [h1 : SmA P w S tr dr] : SmE P w S (tCall (spD S.K S.cs g) [] E tr) (Zd6 g Ed dr) := ⟨Zqy h0.s h1.s⟩
instance {P : Program} {w : World} {S : Sc} {ta tb : TE} {da db : DE} {tt : TT} {dt : DT} [h0 : SmT P w S tt dt] [h1 : SmE P w S ta da] [h2 : SmE P w S tb db] : SmE P w S (tIf tt ta tb) (dIf dt da db) := ⟨Ztv h0.s h1.s h2.s⟩
instance {P : Program} {w : World} {S : Sc} {r : V → List V → Hp → VK → Prop} {d : DM} {te : TE} {de : DE} {ta : TA} {da : DA} [h0 : SmM P w S r d] [h1 : SmE P w S te de] [h2 : SmA P w S ta da] : SmE P w S (tBM S.K "list" r te ta) (dBm tyL d de da) := ⟨Zpi h0.s h1.s h2.s⟩
instance {P : Program} {w : World} {S : Sc} {r : V → List V → Hp → VK → Prop} {d : DM} {te : TE} {de : DE} {ta : TA} {da : DA} [h0 : SmM P w S r d] [h1 : SmE P w S te de] [h2 : SmA P w S ta da] : SmE P w S (tBM S.K "str" r te ta) (dBm tyS d de da) := ⟨Zph h0.s h1.s h2.s⟩
instance {P : Program} {w : World} {S : Sc}  : SmE P w S (tC V.non) (dC PV.non) := ⟨Zy4⟩
instance {P : Program} {w : World} {S : Sc} {b : Bool}  : SmE P w S (tC (V.bl b)) (dC (PV.bl b)) := ⟨Zy7⟩
instance {P : Program} {w : World} {S : Sc} {ta : TE} {da : DE} {r : V → Option Int → Option Int → Hp → VK → Prop} {d : D → Option Int → Option Int → Mem → DQ → Prop} {tl th : TO} {dl dh : DO} [h0 : SmL P w S r d] [h1 : SmE P w S ta da] [h2 : SmP P w S tl dl] [h3 : SmP P w S th dh] : SmE P w S (tSl r ta tl th) (dSl d da dl dh) := ⟨Ztq h0.s h1.s h2.s h3.s⟩
instance {P : Program} {w : World} {S : Sc} {ta : TE} {da : DE} [h0 : SmE P w S ta da] : SmE P w S ta (dFrz da) := ⟨Zpe h0.s⟩
instance {P : Program} {w : World} {S : Sc} {tr : TA} {dr : DA} {k : Cn} {g : DSp} {dv : List PV} {vv : List V} {E : XK} {Ed : DX} [h0 : KIn k S.cs] [h1 : SmD S dv vv] [h2 : SmX S Ed E] [h3 : SmA P w S tr dr] : SmE P w S (tMake (ga S.K k.str) (spD S.K S.cs g) vv E tr) (Zjc k g dv Ed dr) := ⟨Zlg h0.s h1.s h2.s h3.s⟩
instance {P : Program} {w : World} {S : Sc} {te : TE} {de : DE} {tt : TT} {dt : DT} {ti : TI} {di : DI} {g : TG} {dg : DG} {vs : List Nat} [h0 : KOw g vs] [h1 : SmI P w S ti di] [h2 : SmG P w S g dg] [h3 : SmT P w S tt dt] [h4 : SmE P w S te de] : SmE P w S (tLc ti g tt te vs) (dLc di dg dt de vs) := ⟨Zy0 h0.s h1.s h2.s h3.s h4.s⟩
instance {P : Program} {w : World} {S : Sc} {te : TE} {de : DE} {tt : TT} {dt : DT} {ti : TI} {di : DI} {g : TG} {dg : DG} {vs : List Nat} [h0 : KOw g vs] [h1 : SmI P w S ti di] [h2 : SmG P w S g dg] [h3 : SmT P w S tt dt] [h4 : SmE P w S te de] : SmE P w S (tLc ti g tt te vs) (dLcC di dg dt de vs) := ⟨Zts h0.s h1.s h2.s h3.s h4.s⟩
instance {P : Program} {w : World} {S : Sc} {tr : TA} {dr : DA} [h0 : SmA P w S tr dr] : SmE P w S (tLst tr) (Zoq dr) := ⟨Zlh h0.s⟩
instance {P : Program} {w : World} {S : Sc} {ta tb : TE} {da db : DE} [h0 : SmE P w S ta da] [h1 : SmE P w S tb db] : SmE P w S (tAndV ta tb) (Zos da db) := ⟨Zln h0.s h1.s⟩
instance {P : Program} {w : World} {S : Sc} {ta : TE} {da : DE} {r : V → Hp → VK → Prop} {d : D → Mem → DQ → Prop} [h0 : SmU P w S r d] [h1 : SmE P w S ta da] : SmE P w S (tUn r ta) (dUn d da) := ⟨Ztp h0.s h1.s⟩
instance {P : Program} {w : World} {S : Sc} {r r' : R2} {d d' : DR2} {ta tb tc : TE} {da db dc : DE} [h0 : SmO P w S r d] [h1 : SmO P w S r' d'] [h2 : SmE P w S ta da] [h3 : SmE P w S tb db] [h4 : SmE P w S tc dc] : SmE P w S (tChain r r' ta tb tc) (Zjd d d' da db dc) := ⟨Zib h0.s h1.s h2.s h3.s h4.s⟩
instance {P : Program} {w : World} {S : Sc} {tes : List TE} {des : List DE} [h0 : SmEs P w S tes des] : SmE P w S (tFs tes) (dFs des) := ⟨Zy1 h0.s⟩
instance {P : Program} {w : World} {S : Sc} {ta : TE} {da : DE} [h0 : SmE P w S ta da] : SmE P w S (tFmt ta) (dFmt da) := ⟨Ztx h0.s⟩
instance {P : Program} {w : World} {S : Sc} {tf : TE} {df : DE} {tr : TA} {dr : DA} {k : Cn} {g : DSp} {E : XK} {Ed : DX} [h0 : KIn k S.cs] [h1 : SmX S Ed E] [h2 : SmE P w S tf df] [h3 : SmA P w S tr dr] : SmE P w S (Ze6 (ga S.K k.str) (Zh5 2 (spD S.K S.cs g)) E tf tr) (Zgw k g Ed df dr) := ⟨Znm h0.s h1.s h2.s h3.s⟩
instance {P : Program} {w : World} {S : Sc} {k : Cn} {g : DSp} {E : XK} {Ed : DX} {tf : TE} {df : DE} {tr : TA} {dr : DA} [h0 : KIn k S.cs] [h1 : SmX S Ed E] [h2 : SmE P w S tf df] [h3 : SmA P w S tr dr] : SmE P w S (Ze6 (ga S.K k.str) (fun vs ↦ spD S.K S.cs g (vs ++ [])) E tf tr) (Zop k g Ed df dr) := ⟨Zno h0.s h1.s h2.s h3.s⟩
instance {P : Program} {w : World} {S : Sc} {tb : TE} {db : DE} {tr : TA} {dr : DA} {k : Cn} {g : DSp} {E : XK} {Ed : DX} [h0 : SmX S Ed E] [h1 : SmE P w S tb db] [h2 : SmA P w S tr dr] : SmE P w S (tCMeth (ga S.K k.str) (fun vs ↦ spD S.K S.cs g (vs ++ [])) E tb tr) (Zor k g Ed db dr) := ⟨Znp h0.s h1.s h2.s⟩
instance {P : Program} {w : World} {S : Sc} {n : String}  : SmE P w S (tC (V.ty n)) (dC (PV.ty n)) := ⟨Zy2⟩
instance {P : Program} {w : World} {S : Sc} {c : Cn}  : SmE P w S (tC (V.ref (ga S.K c.str))) (dC (PV.cls c)) := ⟨Zy6⟩
instance {S : Sc} {P : Program} {w : World} {ta : TA} {da : DA} [h0 : SmA P w S ta da] : SmE P w S (tCB (Zm4 P w S.K) (tCons (tCB (zSet P w) ta) tNil)) (Zmu da) := ⟨Zkn h0.s⟩
instance {S : Sc} {P : Program} {w : World} {ta : TA} {da : DA} [h0 : SmA P w S ta da] : SmE P w S (tCB (Ze3 P w S.K) (tCons (tCB (zSet P w) ta) tNil)) (Zmr da) := ⟨Zkj h0.s⟩
instance {P : Program} {w : World} {S : Sc} {tr tk : TA} {dr dk : DA} {k : Cn} {n m : Nat} {g : DSp} {E : XK} {Ed : DX} [h0 : KIn k S.cs] [h1 : SmX S Ed E] [h2 : SmA P w S tr dr] [h3 : SmA P w S tk dk] : SmE P w S (tMakeK (ga S.K k.str) n m (spD S.K S.cs g) (fun vs zs ↦ vs ++ zs) E tr tk) (Zky k n m g Ed dr dk) := ⟨Znn h0.s h1.s h2.s h3.s⟩
instance {P : Program} {w : World} {S : Sc} {ts us : TS} {dss dus : DS} [h0 : SmS P w S ts dss] [h1 : SmS P w S us dus] : SmS P w S (tSeq ts us) (dSeq dss dus) := ⟨Zan h0.s h1.s⟩
instance {P : Program} {w : World} {S : Sc} {ta : TE} {da : DE} {g : TG} {dg : DG} [h0 : SmE P w S ta da] [h1 : SmG P w S g dg] : SmS P w S (tAsg ta g) (dAsg da dg) := ⟨Zlm h0.s h1.s⟩
instance {P : Program} {w : World} {S : Sc} {tt : TT} {dt : DT} {ts us : TS} {dss dus : DS} [h0 : SmT P w S tt dt] [h1 : SmS P w S ts dss] [h2 : SmS P w S us dus] : SmS P w S (tIfS tt ts us) (dIfS dt dss dus) := ⟨Zdk h0.s h1.s h2.s⟩
instance {P : Program} {w : World} {S : Sc} {ta : TE} {da : DE} [h0 : SmE P w S ta da] : SmS P w S (tRet ta) (dRet da) := ⟨Zf2 h0.s⟩
instance {P : Program} {w : World} {S : Sc}  : SmS P w S tNext Zam := ⟨Zcz⟩
instance {P : Program} {w : World} {S : Sc} {ts us : TS} {dss dus : DS} [h0 : SmS P w S ts dss] [h1 : SmS P w S us dus] : SmS P w S (tSeq ts us) (dCut dss dus) := ⟨Zll h0.s h1.s⟩
instance {P : Program} {w : World} {S : Sc} {ta : TE} {da : DE} [h0 : SmE P w S ta da] : SmS P w S (tDrop ta) (Zeh da) := ⟨Zbx h0.s⟩
instance {P : Program} {w : World} {S : Sc} {ts : TS} {dss : DS} {ti : TI} {di : DI} {g : TG} {dg : DG} [h0 : SmI P w S ti di] [h1 : SmG P w S g dg] [h2 : SmS P w S ts dss] : SmS P w S (tFor ti g ts) (dFor di dg dss) := ⟨Zia h0.s h1.s h2.s⟩
instance {P : Program} {w : World} {S : Sc} {ta tb : TE} {da db : DE} {f : Fd} [h0 : KCs S.K S.cs] [h1 : SmE P w S tb db] [h2 : SmE P w S ta da] : SmS P w S (sFld S.K tb ta f.str) (dStF db da f) := ⟨Zbm h0.ok h1.s h2.s⟩
instance {P : Program} {w : World} {S : Sc} {tr : TA} {dr : DA} {k : Cn} {f : Fd} {E : XK} {Ed : DX} [h0 : KFl k [f]] [h1 : SmX S Ed E] [h2 : SmA P w S tr dr] : SmS P w S (Zc2 E (ga S.K k.str) (spX1 (ga S.K k.str) f.str) tr) (Zct k Ed dr) := ⟨Zc6 h0.s h1.s h2.s⟩
instance {P : Program} {w : World} {S : Sc} {i : Nat} {te : TE} {e : DE} [h0 : SmE P w S te e] : SmS P w S (tAug i te (ipI fun i j ↦ i + j)) (Zyh i e) := ⟨Zqz h0.s⟩
instance {P : Program} {w : World} {S : Sc}  : SmS P w S Cl.tNever Zjb := ⟨Znl⟩
instance {P : Program} {w : World} {S : Sc} {ta : TE} {da : DE} [h0 : SmE P w S ta da] : SmT P w S (tTest ta) (Zah da) := ⟨Ze9 h0.s⟩
instance {P : Program} {w : World} {S : Sc} {ta : TE} {da : DE} [h0 : SmE P w S ta da] : SmT P w S (Cl.tTru S.K ta) (dTru da) := ⟨Zld h0.s⟩
instance {P : Program} {w : World} {S : Sc} {tt : TT} {dt : DT} [h0 : SmT P w S tt dt] : SmT P w S (tNot tt) (dNot dt) := ⟨Zh8 h0.s⟩
instance {P : Program} {w : World} {S : Sc} {tt tu : TT} {dt du : DT} [h0 : SmT P w S tt dt] [h1 : SmT P w S tu du] : SmT P w S (tAnd tt tu) (dAnd dt du) := ⟨Zpj h0.s h1.s⟩
instance {P : Program} {w : World} {S : Sc} {tt tu : TT} {dt du : DT} [h0 : SmT P w S tt dt] [h1 : SmT P w S tu du] : SmT P w S (tOr tt tu) (dOr dt du) := ⟨Znk h0.s h1.s⟩
instance {P : Program} {w : World} {S : Sc}  : SmT P w S tYes dYes := ⟨Zpb⟩
instance {P : Program} {w : World} {S : Sc} {ta : TE} {da : DE} {tr : TA} {dr : DA} [h0 : SmE P w S ta da] [h1 : SmA P w S tr dr] : SmA P w S (tCons ta tr) (Zaa da dr) := ⟨Zhj h0.s h1.s⟩
instance {P : Program} {w : World} {S : Sc}  : SmA P w S tNil dNil := ⟨Zlf⟩
instance {P : Program} {w : World} {S : Sc} {ta : TE} {da : DE} {tr : TA} {dr : DA} [h0 : SmE P w S ta da] [h1 : SmA P w S tr dr] : SmA P w S (StX.tStar S.K ta tr) (Zp8 da dr) := ⟨Zqu h0.s h1.s⟩
instance {P : Program} {w : World} {S : Sc}  : SmO P w S (zIx S.K) uIx := ⟨Z01⟩
instance {P : Program} {w : World} {S : Sc}  : SmO P w S zAdd uAdd := ⟨Zni⟩
instance {P : Program} {w : World} {S : Sc}  : SmO P w S (zEq S.K) uEq := ⟨Z05⟩
instance {P : Program} {w : World} {S : Sc}  : SmO P w S zLt uLt := ⟨Z0z⟩
instance {P : Program} {w : World} {S : Sc}  : SmO P w S (zNe S.K) uNe := ⟨Z0y⟩
instance {P : Program} {w : World} {S : Sc}  : SmO P w S (zIn S.K) uIn := ⟨Z03⟩
instance {P : Program} {w : World} {S : Sc}  : SmO P w S zIs uIs := ⟨Z02⟩
instance {P : Program} {w : World} {S : Sc}  : SmO P w S Zkd Zkf := ⟨Zlc⟩
instance {P : Program} {w : World} {S : Sc}  : SmO P w S zGt uGt := ⟨Zw2⟩
instance {P : Program} {w : World} {S : Sc}  : SmO P w S zLe uLe := ⟨Z00⟩
instance {P : Program} {w : World} {S : Sc}  : SmO P w S zGe uGe := ⟨Z04⟩
instance {P : Program} {w : World} {S : Sc}  : SmO P w S (Zm3 S.K) Zgn := ⟨Zlb⟩
instance {P : Program} {w : World} {S : Sc}  : SmO P w S zMul uMul := ⟨Ztj⟩
instance {P : Program} {w : World} {S : Sc}  : SmO P w S zMod uMod := ⟨Ztk⟩
instance {P : Program} {w : World} {S : Sc}  : SmO P w S zDiv uDiv := ⟨Ztm⟩
instance {P : Program} {w : World} {S : Sc} {k : Cn} {g : DSp}  : SmO P w S (rNeI (ga S.K k.str) (spD S.K S.cs g) E0) (uNeO k g) := ⟨Zti⟩
instance {P : Program} {w : World} {S : Sc}  : SmO P w S zPow uPow := ⟨Zyy⟩
instance {S : Sc} {P : Program} {w : World}  : SmR P w S (Zm4 P w S.K) uLen := ⟨Zte⟩
instance {P : Program} {w : World} {c0 : CS} {M0 : Mem} {K : W.Frag} {cs : List Cn} {tab : Kd → Option Bool} {tv : PV} [h : KIs K cs tab tv]  : SmR P w { K := K, cs := cs, c0 := c0, M0 := M0 } (zIsi K) (uIsi tab tv) := ⟨kIsi⟩
instance {P : Program} {w : World} {S : Sc}  : SmR P w S Z0l uInt := ⟨Ztf⟩
instance {P : Program} {w : World} {S : Sc}  : SmR P w S (Zqn S.K) Zo5 := ⟨Zo9⟩
instance {S : Sc} {P : Program} {w : World}  : SmR P w S (Ze3 P w S.K) uSrt := ⟨Ztc⟩
instance {P : Program} {w : World} {S : Sc}  : SmR P w S Z0j uStr := ⟨Ztb⟩
instance {P : Program} {w : World} {S : Sc} {k : Cn} {g : DSp}  : SmR P w S (Z0k (ga S.K k.str) (spD S.K S.cs g) E0) (Z0n k g) := ⟨Ztd⟩
instance {P : Program} {w : World} {S : Sc}  : SmM P w S zApp uApp := ⟨Ztn⟩
instance {P : Program} {w : World} {S : Sc}  : SmM P w S (Zwt S.K) Zgy := ⟨Zpa⟩
instance {P : Program} {w : World} {S' : Sc}  : SmM P w S' Zqm Zm5 := ⟨Zqt⟩
instance {P : Program} {w : World} {S : Sc} {i : Nat}  : SmG P w S (gName i) (hName i) := ⟨Zfa⟩
instance {P : Program} {w : World} {S : Sc} {tr : TA} {dr : DA} [h0 : SmA P w S tr dr] : SmI P w S (iRng1 tr) (Zof dr) := ⟨Zh9 h0.s⟩
instance {P : Program} {w : World} {S : Sc} {ta : TE} {da : DE} [h0 : SmE P w S ta da] : SmI P w S (iList S.K ta) (jLst da) := ⟨Zlj h0.s⟩
instance {P : Program} {w : World} {S : Sc} {ta : TE} {da : DE} [h0 : SmE P w S ta da] : SmI P w S (iStr ta) (jStr da) := ⟨Zli h0.s⟩
instance {P : Program} {w : World} {S : Sc} {ta : TE} {da : DE} [h0 : SmE P w S ta da] : SmI P w S (iTup S.K ta) (jTup da) := ⟨Zhi h0.s⟩
instance {P : Program} {w : World} {S : Sc} {ta : TE} {da : DE} [h0 : SmE P w S ta da] : SmP P w S (tPart ta) (Zcw da) := ⟨Zle h0.s⟩
instance {P : Program} {w : World} {S : Sc}  : SmP P w S tNoPart Za2 := ⟨Zf3⟩
instance {P : Program} {w : World} {S : Sc}  : SmL P w S (zSl S.K) uSl := ⟨Z07⟩
instance {P : Program} {w : World} {S : Sc}  : SmL P w S (rSlT S.K) uSlT := ⟨Zyz⟩
instance {P : Program} {w : World} {S : Sc} {ta tb : TE} {da db : DE} [h0 : SmE P w S ta da] [h1 : SmE P w S tb db] : SmG P w S (gSub ta tb rSetL) (hSub da db) := ⟨Zlk h0.s h1.s⟩
instance {P : Program} {w : World} {S : Sc}  : SmU P w S zNeg uNeg := ⟨Zs9⟩
instance {P : Program} {w : World} {S : Sc} {kvs : List (List Nat × Int)} {y : Str} {ta : TE} {da : DE} [k : KTb S.K w kvs y] [h : SmE P w S ta da] : SmE P w S (tOp (Zl5 kvs (ga S.K y)) ta (tC (.ref (ga S.K y)))) (dUn (Zo4 kvs) da) := ⟨Zkm h.s⟩
instance {P : Program} {w : World} {S : Sc} {kvs : List (List Nat × Int)} {y : Str} {tb : TE} {db : DE} [k : KTb S.K w kvs y] [h : SmE P w S tb db] : SmE P w S (tOp (rIxT kvs (ga S.K y)) (tC (.ref (ga S.K y))) tb) (dUn (Z0p kvs) db) := ⟨Zqv h.s⟩
instance {P : Program} {w : World} {S : Sc} {b : Bool} : SmO P w S (Zxd S.K b) (Z0o b) := ⟨Ztl b⟩
instance {P : Program} {w : World} {S : Sc} {tb : TE} {db : DE} {tr : TA} {dr : DA} {m : Str} {g : Cn → Option DSp} {E : XK} {Ed : DX} {dv : List PV} {vv : List V} [h1 : SmD S dv vv] [h2 : SmX S Ed E] [h3 : KHm g m] [h4 : SmE P w S tb db] [h5 : SmA P w S tr dr] : SmE P w S (Zdt (okM S.K S.cs g) m vv E tb tr) (Zd5 g dv Ed db dr) := ⟨Zdj h1.s h2.s h3.hm h4.s h5.s⟩
instance {P : Program} {w : World} {S : Sc} : SmEs P w S [] [] := ⟨.nil⟩
instance {P : Program} {w : World} {S : Sc} {ta : TE} {da : DE} {ts : List TE} {ds : List DE} [h1 : SmE P w S ta da] [h2 : SmEs P w S ts ds] : SmEs P w S (ta :: ts) (da :: ds) := ⟨.cons h1.s h2.s⟩
def sM (rs : List (List Stp)) (p a : Nat) : Stp := (rs.getD p []).getD a none
def stI : Stp → Int
 | none => -1
 | some (q, _) => q
def stT (rs : List (List Stp)) : List (List Int) := rs.map fun r => r.map stI
def outM (rs : List (List Stp)) (es : List (Option (List Nat))) : Nat → List Nat → Option (List Nat)
 | p, [] => es.getD p none
 | p, a :: y => match sM rs p a with
  | none => none
  | some (q, t) => (outM rs es q.toNat y).map fun x => t ++ x
theorem Zi1 {α β : Type} (l : List α) (f : α → β) (i : Nat) (d : α) (e : β) (h : f d = e) : (l.map f).getD i e = f (l.getD i d) := by
 rw [Qi, Qi, Ql]
 cases l[i]? with
 | none => exact h.symm
 | some x => rfl
theorem Z0u (rs : List (List Stp)) (p a : Nat) : stp (stT rs) p a = stI (sM rs p a) := by
 unfold stp stT sM
 rw [Zi1 rs _ p [] [] rfl, Zi1 _ stI a none (-1) rfl]
theorem Zk8 (rs : List (List Stp)) : (stT rs).length = rs.length := Qb ..
structure MTab (w : Nat) (rs : List (List Stp)) (es : List (Option (List Nat))) : Prop where
 tab : Tab w (stT rs)
 len : rs.length = es.length
 nn : ∀ p a q t, sM rs p a = some (q, t) → 0 ≤ q
theorem MTab.pos {w : Nat} {rs : List (List Stp)} {es : List (Option (List Nat))} (m : MTab w rs es) : 0 < rs.length := by rw [← Zk8]; exact m.tab.pos
theorem MTab.wid {w : Nat} {rs : List (List Stp)} {es : List (Option (List Nat))} (m : MTab w rs es) {p : Nat} (h : p < rs.length) : (rs.getD p []).length = w := by
 have := m.tab.row (p := p) (by rw [Zk8]; exact h)
 rw [stT, Zi1 rs _ p [] [] rfl, Qb] at this
 exact this
theorem MTab.lt {w : Nat} {rs : List (List Stp)} {es : List (Option (List Nat))} (m : MTab w rs es) {p a : Nat} {q : Int} {t : List Nat} (hp : p < rs.length) (ha : a < w) (h : sM rs p a = some (q, t)) : 0 ≤ q ∧ q.toNat < rs.length := by
 have h1 := m.tab.lt (p := p) (by rw [Zk8]; exact hp) ha
 rw [Z0u, h, Zk8] at h1
 have h2 := m.nn p a q t h
 have h3 : q < rs.length := h1.2
 exact ⟨h2, by omega⟩
def Z60 (w : Nat) (F : List Nat → Option (List Nat)) : Prop := ∀ c, ¬ ∀ y x, inW w y → F y = some x → x.head? = some c
structure MCan (w : Nat) (rs : List (List Stp)) (es : List (Option (List Nat))) : Prop where
 m : MTab w rs es
 use : ∀ i, i < rs.length → ∃ y x, inW w y ∧ outM rs es i y = some x
 ear : ∀ i, i < rs.length → Z60 w (outM rs es i)
 dif : ∀ i j, i < rs.length → j < rs.length → (∀ y, inW w y → outM rs es i y = outM rs es j y) → i = j
 num : Zq2 (stT rs) = List.range rs.length
theorem Zml {α : Type} (le : α → α → Prop) (rf : ∀ x, le x x) (tr : ∀ x y z, le x y → le y z → le x z) (f : α → Nat → α) (hf : ∀ x p, le x (f x p)) : ∀ (l : List Nat) (x : α), le x (l.foldl f x)
 | [], x => rf x
 | p :: l, x => tr _ _ _ (hf x p) (Zml le rf tr f hf l _)
theorem Zrm {α : Type} (le : α → α → Prop) (rf : ∀ x, le x x) (tr : ∀ x y z, le x y → le y z → le x z) (an : ∀ x y, le x y → le y x → x = y) (f : α → Nat → α) (hf : ∀ x p, le x (f x p)) : ∀ (l : List Nat) (x : α), l.foldl f x = x → ∀ p ∈ l, f x p = x
 | [], _, _, p, h => nomatch h
 | q :: l, x, e, p, h => by
  rw [Lz] at e
  have h1 := Zml le rf tr f hf l (f x q)
  rw [e] at h1
  have e1 : f x q = x := an _ _ h1 (hf x q)
  rcases Qg.mp h with rfl | h
  ·exact e1
  ·rw [e1] at e
   exact Zrm le rf tr an f hf l x e p h
abbrev Txs := List (Option (List Nat))
def utOf (T : Txs) : Stp → Option (List Nat)
 | none => none
 | some (q, t) => (T.getD q.toNat none).map fun x => t ++ x
def Zsx (rs : List (List Stp)) (T : Txs) (p : Nat) : Txs := match T.getD p none with
 | some _ => T
 | none => match (rs.getD p []).findSome? (utOf T) with
  | none => T
  | some x => T.set p (some x)
def Zqo (rs : List (List Stp)) (T : Txs) : Txs := (List.range rs.length).foldl (Zsx rs) T
def IsUT (rs : List (List Stp)) (es T : Txs) : Prop := (∃ k, T = itr (Zqo rs) k es) ∧ Zqo rs T = T
def leT (T T' : Txs) : Prop := T.length = T'.length ∧ ∀ (p : Nat) (x : List Nat), T[p]? = some (some x) → T'[p]? = some (some x)
theorem Zsw (rs : List (List Stp)) (T : Txs) (p : Nat) : leT T (Zsx rs T p) := by
 unfold Zsx
 split
 ·exact ⟨rfl, fun _ _ h => h⟩
 ·rename_i hn
  split
  ·exact ⟨rfl, fun _ _ h => h⟩
  ·refine ⟨by rw [Lf], fun q x h => ?_⟩
   by_cases e : p = q
   ·subst e
    rw [Qi, h] at hn
    cases hn
   ·rw [Q3 e]; exact h
theorem Zzj (T : Txs) : leT T T := ⟨rfl, fun _ _ h => h⟩
theorem Zzi (A B C : Txs) (h : leT A B) (g : leT B C) : leT A C := ⟨h.1.trans g.1, fun p x e => g.2 p x (h.2 p x e)⟩
theorem Zsy (rs : List (List Stp)) (T : Txs) : leT T (Zqo rs T) := Zml leT Zzj Zzi _ (Zsw rs) _ _
theorem Zog (rs : List (List Stp)) (T : Txs) : ∀ k, leT T (itr (Zqo rs) k T)
 | 0 => Zzj T
 | k + 1 => Zzi _ _ _ (Zog rs T k) (Zsy rs _)
section
variable {w : Nat} {rs : List (List Stp)} {es T : Txs}
theorem IsUT.len (h : IsUT rs es T) : T.length = es.length := by
 obtain ⟨⟨k, rfl⟩, _⟩ := h
 exact (Zog rs es k).1.symm
end
def comm : List Nat → List Nat → List Nat
 | x :: a, y :: b => if x = y then x :: comm a b else []
 | _, _ => []
theorem Zv5 : ∀ a b : List Nat, comm a b <+: a
 | [], b => Gb
 | x :: a, [] => Gb
 | x :: a, y :: b => by
  rw [comm]
  split
  ·exact List.prefix_cons_inj x |>.mpr (Zv5 a b)
  ·exact Gb
theorem Zz7 : ∀ a b : List Nat, comm a b <+: b
 | [], b => Gb
 | x :: a, [] => Gb
 | x :: a, y :: b => by
  rw [comm]
  split
  ·rename_i e; subst e; exact List.prefix_cons_inj x |>.mpr (Zz7 a b)
  ·exact Gb
def shS (e : List (List Nat)) (sh : List Nat) : Stp → List Nat
 | none => sh
 | some (q, t) => comm sh (t ++ e.getD q.toNat [])
def sh0 (F : Txs) (e : List (List Nat)) (p : Nat) : List Nat := match F.getD p none with
 | none => e.getD p []
 | some u => comm (e.getD p []) u
def shared (K : List (List Stp)) (F : Txs) (e : List (List Nat)) (p : Nat) : List Nat := (K.getD p []).foldl (shS e) (sh0 F e p)
def Zi5 (K : List (List Stp)) (F : Txs) (e : List (List Nat)) (p : Nat) : List (List Nat) := e.set p (shared K F e p)
def Zmo (K : List (List Stp)) (F : Txs) (e : List (List Nat)) : List (List Nat) := (List.range K.length).foldl (Zi5 K F) e
def Zys (K : List (List Stp)) (F : Txs) (e0 e : List (List Nat)) : Prop := (∃ k, e = itr (Zmo K F) k e0) ∧ Zmo K F e = e
def leE (e e' : List (List Nat)) : Prop := e.length = e'.length ∧ ∀ p : Nat, e'.getD p [] <+: e.getD p []
theorem Zu2 (e : List (List Nat)) : leE e e := ⟨rfl, fun _ => Gp⟩
theorem Zu1 (a b c : List (List Nat)) (h : leE a b) (g : leE b c) : leE a c := ⟨h.1.trans g.1, fun p => (g.2 p).trans (h.2 p)⟩
theorem Zxr (a b : List (List Nat)) (h : leE a b) (g : leE b a) : a = b := by
 apply List.ext_getElem h.1
 intro p h1 h2
 have := h.2 p
 have g' := g.2 p
 rw [Qi, Qi, Qf h1, Qf h2] at this g'
 exact List.IsPrefix.eq_of_length g' (Nat.le_antisymm g'.length_le this.length_le)
theorem Zt2 (e : List (List Nat)) : ∀ (l : List Stp) (sh : List Nat), l.foldl (shS e) sh <+: sh ∧ ∀ q t, some (q, t) ∈ l → l.foldl (shS e) sh <+: t ++ e.getD q.toNat []
 | [], sh => ⟨Gp, fun _ _ h => nomatch h⟩
 | s :: l, sh => by
  have ih := Zt2 e l (shS e sh s)
  rw [Lz]
  have h1 : shS e sh s <+: sh := by
   cases s with
   | none => exact Gp
   | some z => exact Zv5 _ _
  refine ⟨ih.1.trans h1, fun q t h => ?_⟩
  rcases Qg.mp h with rfl | h
  ·exact ih.1.trans (Zz7 _ _)
  ·exact ih.2 q t h
theorem Z1d (F : Txs) (e : List (List Nat)) (p : Nat) : sh0 F e p <+: e.getD p [] := by
 unfold sh0
 split
 ·exact Gp
 ·exact Zv5 _ _
theorem Zrk {α : Type} (l : List α) (p q : Nat) (x d : α) : (l.set p x).getD q d = if p = q ∧ q < l.length then x else l.getD q d := by
 rw [Qi, Qi]
 by_cases h : p = q
 ·subst h
  by_cases hl : p < l.length
  ·rw [Qt hl, if_pos ⟨rfl, hl⟩]; rfl
  ·rw [if_neg fun c => hl c.2, Hj (by rw [Lf]; omega), Hj (by omega)]
 ·rw [Q3 h, if_neg fun c => h c.1]
theorem Zkw (K : List (List Stp)) (F : Txs) (e : List (List Nat)) (p : Nat) : leE e (Zi5 K F e p) := by
 refine ⟨by unfold Zi5; rw [Lf], fun q => ?_⟩
 unfold Zi5
 rw [Zrk]
 split
 ·rename_i c
  rw [← c.1]
  exact (Zt2 e _ _).1.trans (Z1d F e p)
 ·exact Gp
theorem Zsj (K : List (List Stp)) (F : Txs) (e : List (List Nat)) : leE e (Zmo K F e) := Zml leE Zu2 Zu1 _ (Zkw K F) _ _
theorem Zkt (K : List (List Stp)) (F : Txs) (e : List (List Nat)) : ∀ k, leE e (itr (Zmo K F) k e)
 | 0 => Zu2 e
 | k + 1 => Zu1 _ _ _ (Zkt K F e k) (Zsj K F _)
section
variable {w : Nat} {K : List (List Stp)} {F : Txs} {e0 e : List (List Nat)}
theorem Zys.len (h : Zys K F e0 e) : e.length = e0.length := by
 obtain ⟨⟨k, rfl⟩, _⟩ := h
 exact (Zkt K F e0 k).1.symm
theorem Zys.at (h : Zys K F e0 e) {p : Nat} (hp : p < K.length) (hl : e0.length = K.length) : shared K F e p = e.getD p [] := by
 have := Zrm leE Zu2 Zu1 Zxr _ (Zkw K F) _ e h.2 p (Hu.mpr hp)
 have := congrArg (fun l : List (List Nat) => l.getD p []) this
 unfold Zi5 at this
 rw [Zrk, if_pos ⟨rfl, by rw [h.len, hl]; exact hp⟩] at this
 exact this
end
theorem Zxm {w : Nat} : ∀ y, inW w y → outM [List.replicate w none] [none] 0 y = none
 | [], _ => rfl
 | a :: y, hy => by
  have ha := hy a Qp
  have : sM [List.replicate w none] 0 a = none := by
   show (List.replicate w none).getD a none = none
   rw [Qi, Lx, if_pos ha]
   rfl
  rw [outM, this]
structure Z6y (rs : List (List Stp)) (n b : Nat) : Prop where
 le : rs.length ≤ 100000
 w : ∀ r ∈ rs, r.length ≤ 1000
 s : ∀ r ∈ rs, ∀ q t, some (q, t) ∈ r → 0 ≤ q ∧ q.toNat < n ∧ t.length ≤ b
theorem OkT.rows {ls f : List Nat} {rs : List (List Stp)} {es : Txs} {b : Nat} (ok : OkT ls f rs es b) (hl : ls.length ≤ 60) (hn : rs.length ≤ 100000) : Z6y rs rs.length b := ⟨hn, fun r hr => by rw [ok.w r hr]; omega, fun r hr q t h => by obtain ⟨h1, h2, _, h4⟩ := ok.s r hr q t h; exact ⟨h1, by omega, h4⟩⟩
section
variable {σ : Type} {w : Nat} {δ : σ → Nat → Option (σ × List Nat)} {fin : σ → Option (List Nat)} {s0 : σ} {ps : List σ} {rows : List (List Stp)}
def outX (δ : σ → Nat → Option (σ × List Nat)) (fin : σ → Option (List Nat)) : σ → List Nat → Option (List Nat)
 | s, [] => fin s
 | s, a :: y => match δ s a with
  | none => none
  | some (s', t) => (outX δ fin s' y).map fun x => t ++ x
def runX (δ : σ → Nat → Option (σ × List Nat)) : σ → List Nat → Option σ
 | s, [] => some s
 | s, a :: y => match δ s a with
  | none => none
  | some (s', _) => runX δ s' y
def Z3b (δ : σ → Nat → Option (σ × List Nat)) (ps : List σ) (s : σ) (a : Nat) (v : Stp) : Prop := (δ s a = none ∧ v = none) ∨ ∃ s' t, ∃ j : Nat, δ s a = some (s', t) ∧ ps[j]? = some s' ∧ v = some ((j : Int), t)
structure XpI (w : Nat) (δ : σ → Nat → Option (σ × List Nat)) (s0 : σ) (ps : List σ) (rows : List (List Stp)) : Prop where
 nd : ps.Nodup
 z : ps[0]? = some s0
 rch : ∀ s ∈ ps, ∃ y, inW w y ∧ runX δ s0 y = some s
 row : ∀ (i : Nat) (s : σ) (r : List Stp), ps[i]? = some s → rows[i]? = some r → r.length = w ∧ ∀ (a : Nat) (v : Stp), r[a]? = some v → Z3b δ ps s a v
theorem XpI.init : XpI w δ s0 [s0] [] := ⟨Hd.mpr ⟨(fun h => nomatch h), Gh⟩, rfl, fun s h => by rw [Qq.mp h]; exact ⟨[], (fun _ h => nomatch h), rfl⟩, fun i s r _ h => by simp at h⟩
theorem XpI.push (I : XpI w δ s0 ps rows) {s : σ} {r : List Stp} (hs : ps[rows.length]? = some s) (hl : r.length = w) (hc : ∀ (a : Nat) (v : Stp), r[a]? = some v → Z3b δ ps s a v) : XpI w δ s0 ps (rows ++ [r]) where
 nd := I.nd
 z := I.z
 rch := I.rch
 row := fun i x r' hx hr' => by
  rcases Gs i rows.length with h | h
  ·rw [Q0 h] at hr'
   exact I.row i x r' hx hr'
  ·have hi := (Qa.mp hr').1
   rw [Qc, Gi] at hi
   have e : i = rows.length := by omega
   subst e
   rw [Qj] at hr'
   cases hr'
   rw [hs] at hx
   cases hx
   exact ⟨hl, hc⟩
theorem XpI.at (I : XpI w δ s0 ps rows) (hl : rows.length = ps.length) {i : Nat} {s : σ} (hs : ps[i]? = some s) {a : Nat} (ha : a < w) : (rows.getD i []).length = w ∧ Z3b δ ps s a (sM rows i a) := by
 have hi : i < rows.length := by rw [hl]; exact (Qa.mp hs).1
 have hr := Qf hi
 obtain ⟨h1, h2⟩ := I.row i s _ hs hr
 have hg : rows.getD i [] = rows[i] := by rw [Qi, hr]; rfl
 refine ⟨by rw [hg]; exact h1, h2 a _ ?_⟩
 unfold sM
 rw [hg, Qi, Qf (by omega)]
 rfl
theorem XpI.out (I : XpI w δ s0 ps rows) (hl : rows.length = ps.length) : ∀ (y : List Nat) (i : Nat) (s : σ), inW w y → ps[i]? = some s → outM rows (ps.map fin) i y = outX δ fin s y
 | [], i, s, _, hs => by
  show (ps.map fin).getD i none = fin s
  rw [Qi, Ql, hs]
  rfl
 | a :: y, i, s, hy, hs => by
  have ha : a < w := hy a Qp
  have hy' : inW w y := fun b hb => hy b (Qh _ hb)
  rw [outM, outX]
  rcases (I.at hl hs ha).2 with ⟨e1, e2⟩ | ⟨s', t, j, e1, hj, e2⟩
  ·rw [e1, e2]
  ·rw [e1, e2]
   show (outM rows (ps.map fin) ((j : Int)).toNat y).map _ = (outX δ fin s' y).map _
   rw [Gg, I.out hl y j s' hy' hj]
end
def IsLF (w : Nat) (F : List Nat → Option (List Nat)) (f : List Nat) (rs : List (List Stp)) (es : Txs) : Prop := (f = [] ∧ rs = [List.replicate w none] ∧ es = [none] ∧ ∀ y, inW w y → F y = none) ∨ (MCan w rs es ∧ ∀ y, inW w y → (outM rs es 0 y).map (fun x => f ++ x) = F y)
theorem IsLF.out {w : Nat} {F : List Nat → Option (List Nat)} {f : List Nat} {rs : List (List Stp)} {es : Txs} (h : IsLF w F f rs es) {y : List Nat} (hy : inW w y) : (outM rs es 0 y).map (fun x => f ++ x) = F y := by
 rcases h with ⟨rfl, rfl, rfl, h4⟩ | ⟨_, h2⟩
 ·rw [Zxm y hy, h4 y hy]; rfl
 ·exact h2 y hy
def Stg.can (ls : List Nat) : Stg → Sta → Prop
 | .drop _ _ a _ l, s => s.n ≤ a ∧ (s.n < a → s.w = []) ∧ (l = false → s.w = []) ∧ s.w.length ≤ 1 ∧ ∀ c ∈ s.w, c ∈ 45 :: ls
 | .once _ _, s => s.n = 0 ∧ s.w.length ≤ 1 ∧ ∀ c ∈ s.w, c ∈ 45 :: ls
 | _, s => s = {}
def Stg.all (ls : List Nat) : Stg → List Sta
 | .drop _ _ a _ _ => (List.range a).map (fun n => { n := n }) ++ ({ n := a } :: (45 :: ls).map fun c => { n := a, w := [c] })
 | .once _ _ => {} :: (45 :: ls).map fun c => { w := [c] }
 | _ => [{}]
inductive Sv where
 | num (n : Nat) | txt (w : List Nat) | pair (n : Nat) (w : List Nat)
 deriving DecidableEq
def Sv.pv : Sv → PV
 | .num n => .int n
 | .txt w => .str w
 | .pair n w => .tup [.int n, .str w]
theorem Sv.inj {a b : Sv} (h : a.pv = b.pv) : a = b := by
 cases a <;> cases b <;> simp only [Sv.pv] at h <;> first | (injection h with h; first | (rw [Int.ofNat_inj.mp h]; done) | (rw [h]; done) | (injection h with h1 h2; injection h1 with h1; injection h2 with h2 _; injection h2 with h2; rw [Int.ofNat_inj.mp h1, h2])) | cases h
theorem RpS.Z8d {K : PySem.W.Frag} {cs : List Cn} {c c' : CS} {ds : DSt} {σ : L2.St} (h : RpS K cs c ds σ) (s : Same c.F c'.F) (p : c.ρ <+: c'.ρ) : RpS K cs c' ds σ :=
 ⟨h.1, fun i d e => let ⟨v, h1, h2⟩ := h.2 i d e; ⟨v, h1, h2.mono s p⟩⟩
def Zek (g : DG) (t : DT) (it1 : DI) (g1 : DG) (t1 : DT) (e : DE) (vs1 : List Nat) (ds0 : DSt) (Q : List PV → Mem → Prop) : List D → List PV → Mem → Prop
 | [], acc, M => Q acc M
 | x :: xs, acc, M => g x ds0 M fun ds2 M2 => t ds2 M2 fun b M3 => if b = true then it1 ds2 M3 fun ys M4 => Zdr g1 t1 e (Zbl ds2 vs1) (fun acc2 M5 => Zek g t it1 g1 t1 e vs1 ds0 Q xs acc2 M5) ys acc M4 else Zek g t it1 g1 t1 e vs1 ds0 Q xs acc M3
def dLc2 (it : DI) (g : DG) (t : DT) (it1 : DI) (g1 : DG) (t1 : DT) (e : DE) (vs vs1 : List Nat) : DE := fun ds M Q => it ds M fun xs M1 => Zek g t it1 g1 t1 e vs1 (Zbl ds vs) (fun acc M2 => Q (vL acc) M2) xs [] M1
section
variable {S : Sc} {ti ti1 : TI} {di di1 : DI} {g g1 : TG} {dg dg1 : DG} {tt tt1 : TT} {dt dt1 : DT} {te : TE} {de : DE} {vs vs1 : List Nat}
theorem Ztt (own : GOwn g vs) (own1 : GOwn g1 vs1) (hi : SimI S ti di) (hg : SimG S g dg) (ht : SimT S tt dt) (hi1 : SimI S ti1 di1) (hg1 : SimG S g1 dg1) (ht1 : SimT S tt1 dt1) (he : SimE S te de) : SimE S (tLc2 ti g tt ti1 g1 tt1 te vs vs1) (dLc2 di dg dt di1 dg1 dt1 de vs vs1) := fun c M σ ds Q Qd ok rs q po =>
 hi c M σ ds _ _ ok rs q fun c1 M1 J xs s1 r1 wk q1 => by
  intro P hP
  have ok1 := ok.step s1 r1
  obtain ⟨r2, s2⟩ := r1.Zoz hP (.lst [])
  have rs1 := rs.step s1
  obtain ⟨hPF, hPρ⟩ := r1.fresh hP
  refine ⟨fun i m H' => ∃ c2 M2 acc vs2, c2.H = H' ∧ m = xs.length - i ∧ i ≤ xs.length ∧ Step c1 M1 c2 M2 ∧ Rel S.K S.cs c2 M2 ∧ c2.H P = some (.lst vs2) ∧ c2.F P = none ∧ ¬ Live c2.ρ M2 P ∧ RpL S.K S.cs c2.F acc vs2 ∧ Zek dg dt di1 dg1 dt1 de vs1 (Zbl ds vs) (fun acc M2 => Qd (vL acc) M2) (xs.drop i) acc M2,
   ⟨xs.length, ⟨c1.F, c1.ρ, upd c1.H P (.lst [])⟩, M1, [], [], rfl, rfl, Q4 _, s2, r2, upd_same, hPF, r1.Z4u hP, (rfl : ([] : List V) = []), q1⟩, ?_⟩
  rintro i m H' ⟨c2, M2, acc, vs2, rfl, rfl, hi, s2, r2, hP1, hP2, hP3, ra, q2⟩
  obtain ⟨w1, w2⟩ := wk i c2 M2 s2.same s2.pre r2
  by_cases hlt : i < xs.length
  ·obtain ⟨g1', g2⟩ := w2 xs[i] (by simp [hlt])
   rw [Qu hlt] at q2
   refine Or.inr ⟨g1', fun H'' => ∃ c3 M3 acc3 vs3, c3.H = H'' ∧ Step c1 M1 c3 M3 ∧ Rel S.K S.cs c3 M3 ∧ c3.H P = some (.lst vs3) ∧ c3.F P = none ∧ ¬ Live c3.ρ M3 P ∧ RpL S.K S.cs c3.F acc3 vs3 ∧ Zek dg dt di1 dg1 dt1 de vs1 (Zbl ds vs) (fun acc M2 => Qd (vL acc) M2) (xs.drop (i + 1)) acc3 M3,
    fun H'' ⟨c3, M3, acc3, vs3, e, s3, r3, h1, h2, h3, h4, h5⟩ => ⟨xs.length - (i + 1), by omega, c3, M3, acc3, vs3, e, rfl, hlt, s3, r3, h1, h2, h3, h4, h5⟩, fun x H'' hy => own _ _ _ _ ?_⟩
   obtain ⟨c3, rfl, s3, r3, p3⟩ := g2 x H'' hy
   have ok2 := ok1.step s2 r2
   have rs3 : S.St c3 (Zbl ds vs) (wipe σ vs) := Zhv ((rs1.step s2).step s3) vs
   have okP3 := s3.frame P _ hP1 hP2 hP3
   refine hg c3 M2 (wipe σ vs) (Zbl ds vs) _ _ _ _ (ok2.step s3 r3) rs3 p3 q2 fun c4 M4 σ4 ds4 s4 r4 p4 q4 => ?_
   have okP4 := s4.frame P _ okP3.1 okP3.2.1 okP3.2.2
   have ok4 := (ok2.step s3 r3).step s4 r4
   refine ht c4 M4 σ4 ds4 _ _ ok4 p4 q4 fun c5 M5 b s5 r5 q5 => ?_
   have okP5 := s5.frame P _ okP4.1 okP4.2.1 okP4.2.2
   have st5 : Step c1 M1 c5 M5 := s2.trans (s3.trans (s4.trans s5))
   have ra5 := RpL.same (K := S.K) (cs := S.cs) (s3.same.trans (s4.same.trans s5.same)) _ _ ra
   cases b with
   | false => exact ⟨c5, M5, acc, vs2, rfl, st5, r5, okP5.1, okP5.2.1, okP5.2.2, ra5, q5⟩
   | true =>
    have p5 := p4.step s5
    refine hi1 c5 M5 σ4 ds4 _ _ (ok4.step s5 r5) p5 q5 fun c6 M6 J1 ys s6 r6 wk1 q6 => ?_
    have okP6 := s6.frame P _ okP5.1 okP5.2.1 okP5.2.2
    have st6 := st5.trans s6
    have p6 := p5.step s6
    refine ⟨fun j k H' => ∃ c7 M7 acc7 vs7, c7.H = H' ∧ k = ys.length - j ∧ j ≤ ys.length ∧ Step c1 M1 c7 M7 ∧ (Same c6.F c7.F ∧ c6.ρ <+: c7.ρ) ∧ Rel S.K S.cs c7 M7 ∧ c7.H P = some (.lst vs7) ∧ c7.F P = none ∧ ¬ Live c7.ρ M7 P ∧ RpL S.K S.cs c7.F acc7 vs7 ∧ Zdr dg1 dt1 de (Zbl ds4 vs1) (fun acc2 M5 => Zek dg dt di1 dg1 dt1 de vs1 (Zbl ds vs) (fun acc M2 => Qd (vL acc) M2) (xs.drop (i + 1)) acc2 M5) (ys.drop j) acc7 M7,
     ⟨ys.length, c6, M6, acc, vs2, rfl, rfl, Q4 _, st6, ⟨Same.refl _, Hh _⟩, r6, okP6.1, okP6.2.1, okP6.2.2, RpL.same s6.same _ _ ra5, q6⟩, ?_⟩
    rintro j k H' ⟨c7, M7, acc7, vs7, rfl, rfl, hj, s7, ⟨sm7, pr7⟩, r7, hQ1, hQ2, hQ3, ra7, q7⟩
    obtain ⟨v1, v2⟩ := wk1 j c7 M7 sm7 pr7 r7
    by_cases hjl : j < ys.length
    ·obtain ⟨g3, g4⟩ := v2 ys[j] (by simp [hjl])
     rw [Qu hjl] at q7
     refine Or.inr ⟨g3, fun H'' => ∃ c8 M8 acc8 vs8, c8.H = H'' ∧ Step c1 M1 c8 M8 ∧ (Same c6.F c8.F ∧ c6.ρ <+: c8.ρ) ∧ Rel S.K S.cs c8 M8 ∧ c8.H P = some (.lst vs8) ∧ c8.F P = none ∧ ¬ Live c8.ρ M8 P ∧ RpL S.K S.cs c8.F acc8 vs8 ∧ Zdr dg1 dt1 de (Zbl ds4 vs1) (fun acc2 M5 => Zek dg dt di1 dg1 dt1 de vs1 (Zbl ds vs) (fun acc M2 => Qd (vL acc) M2) (xs.drop (i + 1)) acc2 M5) (ys.drop (j + 1)) acc8 M8,
      fun H'' ⟨c8, M8, acc8, vs8, e, s8, sp, r8, h1, h2, h3, h4, h5⟩ => ⟨ys.length - (j + 1), by omega, c8, M8, acc8, vs8, e, rfl, hjl, s8, sp, r8, h1, h2, h3, h4, h5⟩, fun x H'' hy => own1 _ _ _ _ ?_⟩
     obtain ⟨c8, rfl, s8, r8, p8⟩ := g4 x H'' hy
     have ok7 := ok1.step s7 r7
     have rs8 : S.St c8 (Zbl ds4 vs1) (wipe σ4 vs1) := Zhv ((p6.Z8d sm7 pr7).step s8) vs1
     have okQ8 := s8.frame P _ hQ1 hQ2 hQ3
     refine hg1 c8 M7 (wipe σ4 vs1) (Zbl ds4 vs1) _ _ _ _ (ok7.step s8 r8) rs8 p8 q7 fun c9 M9 σ9 ds9 s9 r9 p9 q9 => ?_
     have okQ9 := s9.frame P _ okQ8.1 okQ8.2.1 okQ8.2.2
     have ok9 := (ok7.step s8 r8).step s9 r9
     refine ht1 c9 M9 σ9 ds9 _ _ ok9 p9 q9 fun ca Ma b sa rA qa => ?_
     have okQa := sa.frame P _ okQ9.1 okQ9.2.1 okQ9.2.2
     have sta : Step c7 M7 ca Ma := s8.trans (s9.trans sa)
     have raa := RpL.same (K := S.K) (cs := S.cs) sta.same _ _ ra7
     cases b with
     | false => exact ⟨ca, Ma, acc7, vs7, rfl, s7.trans sta, ⟨sm7.trans sta.same, pr7.trans sta.pre⟩, rA, okQa.1, okQa.2.1, okQa.2.2, raa, qa⟩
     | true =>
      refine he ca Ma σ9 ds9 _ _ (ok9.step sa rA) (p9.step sa) qa fun cb Mb vb db sb rb pb ⟨z, eb, hl, qb⟩ => ?_
      subst eb
      have okQb := sb.frame P _ okQa.1 okQa.2.1 okQa.2.2
      have rab := RpL.same (K := S.K) (cs := S.cs) sb.same _ _ raa
      have stb := sta.trans sb
      refine ⟨vs7, okQb.1, by rw [← ra7.len]; exact hl, ⟨cb.F, cb.ρ, upd cb.H P (.lst (vs7 ++ [vb]))⟩, Mb, acc7 ++ [z], vs7 ++ [vb], rfl, ?_, ⟨sm7.trans stb.same, pr7.trans stb.pre⟩, rb.Zk0 okQb.1 okQb.2.1 okQb.2.2 _, upd_same, okQb.2.1, okQb.2.2, (rab.a2.append (.cons pb .nil)).rpL, qb⟩
      have stc := s7.trans stb
      refine ⟨stc.same, stc.pre, fun a o h1 h2 h3 => ?_⟩
      obtain ⟨k1, k2, k3⟩ := stc.frame a o h1 h2 h3
      have hne : a ≠ P := fun z => by rw [z, hP] at h1; cases h1
      exact ⟨by show upd cb.H P (.lst (vs7 ++ [vb])) a = some o; rw [upd_ne hne]; exact k1, k2, k3⟩
    ·have e : ys.length = j := by omega
     rw [← e, Ht] at q7
     exact Or.inl ⟨v1 e, c7, M7, acc7, vs7, rfl, s7, r7, hQ1, hQ2, hQ3, ra7, q7⟩
  ·have e : xs.length = i := by omega
   rw [← e, Ht] at q2
   refine Or.inl ⟨w1 e, ?_⟩
   have r3 := r2.Zk1 hP1 hP2 hP3
   have sF : Same c2.F (upd c2.F P (.lst vs2)) := Za3 hP2
   refine po ⟨upd c2.F P (.lst vs2), c2.ρ, c2.H⟩ M2 (.ref P) (vL acc) (s1.trans ⟨s2.same.trans sF, s2.pre, fun a o h1 h2 h3 => ?_⟩) r3 ⟨P, vs2, rfl, upd_same, RpL.same sF _ _ ra⟩ q2
   obtain ⟨k1, k2, k3⟩ := s2.frame a o h1 h2 h3
   have hne : a ≠ P := fun z => by rw [z, hP] at h1; cases h1
   exact ⟨k1, by show upd c2.F P (.lst vs2) a = none; rw [upd_ne hne]; exact k2, k3⟩
end
def Zws (K : PySem.W.Frag) (fd : FuncData) (ps : List Str) (pv : Str) (n : Nat) (ks : List Str) (g : List Value → List Value → List Value) : Prop :=
 ∀ (M : Model) (A : Around) (s : Shared) (us rest ws : List Value) (E : Value → Shared → Prop) (Q : List (Str × Value) → Shared → Prop), K.In s.heap → us.length = n → ws.length = ks.length →
  wpAny M A (newTuple rest) (fun t s2 => Q (ps.zip (g us ws) ++ [(pv, t)]) s2) E s → wpAny M A (bindArgs fd ⟨us ++ rest, ks.zip ws⟩) Q E s
def spSK (n m : Nat) (gV : List V → List V → List V) (sp : Sp) (vs zs : List V) (H : Hp) (Q : VK) (E : XK) : Prop :=
 ∃ ws rest, vs = ws ++ rest ∧ ws.length = n ∧ zs.length = m ∧ rest.length ≤ sizeLine ∧ ∀ p, H p = none → sp (gV ws zs ++ [V.ref p]) (upd H p (.tup rest)) Q E
def FnRV (P : Program) (w : World) (K : PySem.W.Frag) (mg : Str → Option Value) (base : Heap) (CX : CXT) (k : Nat) (f : Addr) (n : Nat) (ks : List Str) (gV : List V → List V → List V) (sp : Sp) : Prop :=
 ∀ (A : Around) (outer : List Env) (s : Shared) (H : Hp) (us ws : List Value) (vs zs : List V) (Q : VK) (E : XK), Room k A → Env0 P w K mg base A outer s H → Vals vs us → Vals zs ws → spSK n ks.length gV sp vs zs H Q E →
  codeAny (model P w) A (.call (.ref f) ⟨us, ks.zip ws⟩) (CR CX outer P w H s Q E) s
theorem FunD.Z68 {P : Program} {w : World} {K : PySem.W.Frag} {mg : Str → Option Value} {base : Heap} {x qual : Str} {params : Arguments} {body : List Stmt} {scope : Scope} {kws : List (Str × V)} {f : Addr} {fd : FuncData} {CX : CXT} {N ps : List Str} {pv : Str} {k n : Nat} {ks : List Str} {g : List Value → List Value → List Value} {gV : List V → List V → List V} {sp : Sp}
  (F : FunD K x qual params body scope [] kws f fd) (S : FnScope N (ps ++ [pv]) scope) (hCX : StX.CXUp CX) (hb : Zws K fd ps pv n ks g)
  (hg : ∀ (vs zs : List V) (us ws : List Value), Vals vs us → Vals zs ws → Vals (gV vs zs) (g us ws)) (hl : ∀ vs zs : List V, vs.length = n → zs.length = ks.length → (gV vs zs).length = ps.length)
  (hbody : ∀ (cdv : Value) (A : Around) (outer : List Env) (s : Shared) (H : Hp) (vs : List V) (Q : VK) (E : XK), Room k (A.deeper (envOfC qual scope s.heap.objs.size f cdv)) → sp vs H Q E →
   ∃ t, PSs (cxOf CX P w K mg base N qual scope f cdv A outer s H E) body t ∧ t { nx := fun _ H' => Q .non H', rt := Q } (L2.start N vs) H) : FnRV P w K mg base CX (k + 1) f n ks gV sp := by
 obtain ⟨oc, od, dV, kV, doc, pm, an, cdv, ct, osl, rfl, lk, hcd, hD, hK⟩ := F.ex
 intro A outer s H us ws vs zs Q E hr e0 r rz hsp
 obtain ⟨wv, rest, ev, h1, h2, hz, hq⟩ := hsp
 subst ev
 obtain ⟨u1, u2, eu, r1, r2⟩ := StX.vals_split r
 subst eu
 have hn : H s.heap.objs.size = none := e0.hok.fresh (Qz _)
 have hl1 : u1.length = n := by rw [← r1.length]; exact h1
 have hl2 : u2.length ≤ sizeLine := by rw [← r2.length]; exact hz
 have hl3 : ws.length = ks.length := by rw [← rz.length]; exact h2
 have rg := hg _ _ _ _ r1 rz
 have lg := hl _ _ h1 h2
 have KX : K.In s.heap := e0.mod.kin.keeps fun b o e => (e0.bs b o e).1
 refine StX.run_bnd lk hcd S hr e0 (G := fun xs H2 => ∃ p, H p = none ∧ xs = gV wv zs ++ [V.ref p] ∧ H2 = upd H p (.tup rest)) (fun A' Ex Q' h => ?_) fun s2 H2 xs ⟨p, hp, ex, eH⟩ hr' => ?_
 ·refine hb _ A' s u1 u2 ws Ex Q' KX hl1 hl3 (wpAny_newTuple ?_ hl2)
  have new : ObjOk P w (upd H s.heap.objs.size (.tup rest)) (s.heap.push ({ cls := .type "tuple", data := .seq u2.toArray } : Obj)) s.heap.objs.size (.tup rest) := ⟨hz, u2, r2, ⟨_, Heap.get?_push_size _ rfl, rfl, _, rfl⟩⟩
  have un := StX.un_laid (fs := frs outer) (s := s) (o := ({ cls := .type "tuple", data := .seq u2.toArray } : Obj)) (u := .tup rest) hn
  have z := h _ _ (gV wv zs ++ [V.ref s.heap.objs.size]) (g u1 ws ++ [Value.ref s.heap.objs.size]) (StX.env0_laid e0 new) un rfl (fun e s' => hCX outer s H _ _ E e s' un (fun b o q => Heap.get?_push_of_some _ q) rfl) (rg.append (.cons rfl .nil))
   (by rw [Qc, Qc, lg] <;> rfl) ⟨_, hn, rfl, rfl⟩
  rw [List.zip_append (by rw [← rg.length, lg])] at z
  exact z
 ·subst ex eH
  exact hbody cdv A outer s2 _ _ Q E hr' (hq p hp)
section
variable {K : PySem.W.Frag} {x qual : Str} {params : Arguments} {body : List Stmt} {scope : Scope} {kws : List (Str × V)} {f : Addr} {fd : FuncData} {ps : List Str} {pv : Str}
theorem FunD.Z20 (F : FunD K x qual params body scope [] kws f fd) (n : Nat) (ks : List Str)
  (h : ∀ (kV doc pm : Value) (an : Option Addr) (cdv ct : Value) (us rest ws : List Value), us.length = n → ws.length = ks.length →
   bindArgs (PySem.W.fnOf x qual params body scope .none kV doc pm an cdv ct) ⟨us ++ rest, ks.zip ws⟩ = (newTuple rest >>= fun t => pure (ps.zip (us ++ ws) ++ [(pv, t)]))) :
  Zws K fd ps pv n ks (fun us ws => us ++ ws) := by
 obtain ⟨oc, od, dV, kV, doc, pm, an, cdv, ct, osl, rfl, lk, hcd, hD, hK⟩ := F.ex
 rcases hD with ⟨_, rfl⟩ | ⟨e, _⟩
 ·intro M A s us rest ws E Q _ l1 l2 q
  rw [h kV doc pm an cdv ct us rest ws l1 l2]
  exact wpAny_bind (wpAny_mono q (fun t s2 z => wpAny_pure z) fun _ _ z => z)
 ·exact absurd rfl e
end
def Zk5 (C : Addr) (n m : Nat) (gV : List V → List V → List V) (sp : Sp) (E : XK) (ta : TE) (t tk : TA) : TE := fun σ H Q => ta σ H fun x H1 => x = .ref C ∧ t σ H1 fun vs H2 => tk σ H2 fun zs H3 => spSK n m gV sp (.ref C :: vs) zs H3 Q E
section
variable {X : Cx} {CX : CXT} {k n : Nat} {ks : List Str} {gV : List V → List V → List V} {C p g : Addr} {mc : Value} {sp : Sp} {E : XK} {o e : Expr} {es : List Expr} {kws : List Keyword} {m : Str} {pos apos : Pos} {ta : TE} {t tk : TA} {pl : Sem Bool}
theorem Z1i {pins : List (Addr × Obj)} {σ : L2.St} {H : Hp} {s : Shared} {q : Addr} {Q : VK} {us ws : List Value} {vs zs : List V} (F : FnRV X.prog X.w X.K X.mg X.base CX k g n ks gV sp) (hr : Room k X.A) (hx : Passes CX X E) (I : Inv X ((q, PySem.W.methodObj (.ref g) (.ref C)) :: pins) σ H s)
  (r : Vals vs us) (rz : Vals zs ws) (h : spSK n ks.length gV sp (.ref C :: vs) zs H Q E) : wpAny (model X.prog X.w) X.A (call (.ref q) us (ks.zip ws)) (EP X pins σ Q) X.xe s := by
 have z : wpAny (model X.prog X.w) X.A (call (.ref q) us (ks.zip ws)) (EP X ((q, PySem.W.methodObj (.ref g) (.ref C)) :: pins) σ Q) X.xe s := by
  refine wpAny_call (PySem.W.method_call (pin_at I) (codeAny_mono (F X.A X.stack s H (.ref C :: us) ws (.ref C :: vs) zs Q E hr I.env0 (.cons rfl r) rz h) fun r s' hq => ?_))
  cases r with
  | error e => exact hx _ σ H s e s' I hq
  | ok fl =>
   cases fl with
   | ret u => exact I.after hq
   | next => exact False.elim hq
   | brk => exact False.elim hq
   | cont => exact False.elim hq
 exact thn z fun _ _ y => unpinE y
end
def Zje (k : Cn) (n m : Nat) (gD : List D → List D → List D) (g : DSp) (Ed : DX) (o : DE) (a b : DA) : DE := fun ds M Q => o ds M fun x M1 => x = .v (.cls k) ∧ a ds M1 fun xs M2 => b ds M2 fun zs M3 =>
 ∃ ws rs, .v (.cls k) :: xs = ws ++ rs.map D.v ∧ ws.length = n ∧ zs.length = m ∧ rs.length ≤ sizeLine ∧ g (gD ws zs ++ [.v (.tup rs)]) M3 Q Ed
theorem A2.split {α β : Type} {R : α → β → Prop} : ∀ {as bs : List α} {vs : List β}, A2 R (as ++ bs) vs → ∃ v1 v2, vs = v1 ++ v2 ∧ A2 R as v1 ∧ A2 R bs v2
 | [], _, vs, h => ⟨[], vs, rfl, .nil, h⟩
 | _ :: as, bs, _, .cons a r => by
  obtain ⟨v1, v2, e, h1, h2⟩ := A2.split (as := as) r
  exact ⟨_ :: v1, v2, by rw [e]; rfl, .cons a h1, h2⟩
section
variable {S : Sc} {to : TE} {do_ : DE} {ta tb : TA} {da db : DA}
theorem Zr5 {k : Cn} {n m : Nat} {gD : List D → List D → List D} {gV : List V → List V → List V} {g : DSp} {E : XK} {Ed : DX} (px : PoX S S.c0 S.M0 Ed E)
  (hg : ∀ (c : CS) (ds es : List D) (vs zs : List V), S.Ld c ds vs → S.Ld c es zs → S.Ld c (gD ds es) (gV vs zs)) (ho : SimE S to do_) (ha : SimA S ta da) (hb : SimA S tb db) :
  SimE S (Zk5 (ga S.K k.str) n m gV (spD S.K S.cs g) E to ta tb) (Zje k n m gD g Ed do_ da db) := fun c M σ ds Q Qd ok rs q po =>
 ho c M σ ds _ _ ok rs q fun c0 M0 v0 d0 s0 r0 p0 ⟨e0, q0⟩ => by
  subst e0
  have ok0 := ok.step s0 r0
  refine ⟨p0, ha c0 M0 σ ds _ _ ok0 (rs.step s0) q0 fun c1 M1 v1 d1 s1 r1 p1 q1 => ?_⟩
  have ok1 := ok0.step s1 r1
  refine hb c1 M1 σ ds _ _ ok1 ((rs.step s0).step s1) q1 fun c2 M2 v2 d2 s2 r2 p2 ⟨ws, ps, e, h1, h2, hz, q2⟩ => ?_
  have ok2 := ok1.step s2 r2
  have pc : S.Ld c2 (.v (.cls k) :: d1) (V.ref (ga S.K k.str) :: v1) := .cons (show RpD S.K S.cs c2.F c2.ρ (.v (.cls k)) _ from rfl) (Sc.Ld.step p1 s2)
  rw [e] at pc
  obtain ⟨u1, u2, eu, t1, t2⟩ := A2.split pc
  have hvl : u2.length ≤ sizeLine := by rw [← t2.len, Qb]; exact hz
  refine ⟨u1, u2, eu, by rw [← t1.len]; exact h1, by rw [← p2.len]; exact h2, hvl, fun p hp => ?_⟩
  obtain ⟨r3, s3⟩ := r2.lay hp (.tup u2)
  have pr2 : RpL S.K S.cs c2.F ps u2 := Zbu t2 (Zbg ps)
  have tg := hg _ _ _ _ _ t1 p2
  have tt : S.Vd ⟨upd c2.F p (.tup u2), c2.ρ, upd c2.H p (.tup u2)⟩ (.v (.tup ps)) (.ref p) := ⟨p, u2, rfl, .inl (.inl upd_same), RpL.same s3.same _ _ pr2⟩
  exact Zkh (ok2.step s3 r3) ((Sc.Ld.step tg s3).append (.cons tt .nil)) q2 (po.step (s0.trans (s1.trans (s2.trans s3)))) px
end
def catD (a b : List D) : List D := a ++ b
def catV (a b : List V) : List V := a ++ b
section
variable {X : Cx}
theorem Z24 {vs vs1 : List Nat} (h : (vs1.all fun i => vs.contains i) = true) : ∀ i ∈ vs1, i ∈ vs := fun i hi => by
 simpa using Q6.mp h i hi
theorem Z19 {i : Nat} {y : Str} {pos py spos : Pos} {elt tg iter tg1 iter1 : Expr} {ifs ifs1 : List Expr} {scope : Scope} {wi wi1 : TI} {gt gt1 : TG} {tt tt1 : TT} {te : TE} {vs vs1 : List Nat} (h2 : X.env.scope.names.lookup y = some .local) (hc : X.calm = true) (hN : X.N.Nodup) (hi : PI X tg iter wi) (h1 : X.N[i]? = some y) (hk : X.env.scope.kind = .function) (hl : (py.line == spos.line) = true)
  (hw : (scope.names.any fun x => match x with | (n, k) => n == y && (k == NameKind.local || k == NameKind.cell)) = false)
  (ok : blkC X.N X.env.scope scope (vs.map fun i => (X.N.getD i default, i)) = true) (hv : (vs1.all fun i => vs.contains i) = true)
  (hg : ∀ (s : Shared) (H : Hp) (C : Addr) (cl : List (Str × Addr)) (fp : List Addr), PG (X.blk s H scope (compEnvC scope cl C X.env) fp) tg gt) (ht : ∀ (s : Shared) (H : Hp) (C : Addr) (cl : List (Str × Addr)) (fp : List Addr), PTs (X.blk s H scope (compEnvC scope cl C X.env) fp) ifs tt)
  (hi1 : ∀ (s : Shared) (H : Hp) (C : Addr) (cl : List (Str × Addr)) (fp : List Addr), PI (X.blk s H scope (compEnvC scope cl C X.env) fp) tg1 iter1 wi1)
  (hg1 : ∀ (s : Shared) (H : Hp) (C : Addr) (cl : List (Str × Addr)) (fp : List Addr), PG (X.blk s H scope (compEnvC scope cl C X.env) fp) tg1 gt1) (ht1 : ∀ (s : Shared) (H : Hp) (C : Addr) (cl : List (Str × Addr)) (fp : List Addr), PTs (X.blk s H scope (compEnvC scope cl C X.env) fp) ifs1 tt1)
  (he : ∀ (s : Shared) (H : Hp) (C : Addr) (cl : List (Str × Addr)) (fp : List Addr), PE (X.blk s H scope (compEnvC scope cl C X.env) fp) elt te) (hs : ∀ x, foldedSetIterable iter X.env x = pure x) (hs1 : ∀ env x, foldedSetIterable iter1 env x = pure x) :
  PS X (.Assign [.Name y py] (.ListComp elt [⟨tg, iter, ifs, 0⟩, ⟨tg1, iter1, ifs1, 0⟩] scope spos) pos) (tAsg (tLc2 wi gt tt wi1 gt1 tt1 te vs vs1) (gName i)) := by
 have e : (vs.map fun i => ((X.N.getD i default, i) : Str × Nat)).map (·.2) = vs := by rw [Qk]; exact L4 _
 have h := ps_setLc2 (pos := spos) (spos := pos) (py := py) (vs1 := vs1) hc hN h1 h2 (sw_true hk h2 hl hw) hi (blkOk_by ok) (by rw [e]; exact Z24 hv) hg ht hi1 hg1 ht1 he hs hs1
 rw [e] at h
 exact h
end
def Ze7 (C : Addr) (n m : Nat) (gV : List V → List V → List V) (sp : Sp) (E : L2.St → XK) (ta : TE) (t tk : TA) : TE := fun σ H Q => ta σ H fun x H1 => x = .ref C ∧ t σ H1 fun vs H2 => tk σ H2 fun zs H3 => spSK n m gV sp (.ref C :: vs) zs H3 Q (E σ)
section
variable {X : Cx} {CX : CXT} {k n : Nat} {ks : List Str} {gV : List V → List V → List V} {C p g : Addr} {mc : Value} {sp : Sp} {E : L2.St → XK} {o e : Expr} {es : List Expr} {kws : List Keyword} {m : Str} {pos apos : Pos} {ta : TE} {t tk : TA} {pl : Sem Bool}
theorem Zxc {Ex : XK} {pins : List (Addr × Obj)} {σ : L2.St} {H : Hp} {s : Shared} {q : Addr} {Q : VK} {us ws : List Value} {vs zs : List V} (F : FnRV X.prog X.w X.K X.mg X.base CX k g n ks gV sp) (hr : Room k X.A) (hx : PassesAt CX X σ Ex) (I : Inv X ((q, PySem.W.methodObj (.ref g) (.ref C)) :: pins) σ H s)
  (r : Vals vs us) (rz : Vals zs ws) (h : spSK n ks.length gV sp (.ref C :: vs) zs H Q Ex) : wpAny (model X.prog X.w) X.A (call (.ref q) us (ks.zip ws)) (EP X pins σ Q) X.xe s := by
 have z : wpAny (model X.prog X.w) X.A (call (.ref q) us (ks.zip ws)) (EP X ((q, PySem.W.methodObj (.ref g) (.ref C)) :: pins) σ Q) X.xe s := by
  refine wpAny_call (PySem.W.method_call (pin_at I) (codeAny_mono (F X.A X.stack s H (.ref C :: us) ws (.ref C :: vs) zs Q Ex hr I.env0 (.cons rfl r) rz h) fun r s' hq => ?_))
  cases r with
  | error e => exact hx _ H s e s' I hq
  | ok fl =>
   cases fl with
   | ret u => exact I.after hq
   | next => exact False.elim hq
   | brk => exact False.elim hq
   | cont => exact False.elim hq
 exact thn z fun _ _ y => unpinE y
theorem Zup {M : Model} {A : Around} {E : Value → Shared → Prop} {s : Shared} {o : Expr} {env : Env} {es : List Expr} {Q : Value → Shared → Prop}
  (h : wpAny M A (eval o env) (fun ov s1 => wpAny M A (getAttr ov m true) (fun f s2 => wpAny M A (callWith pos f [] (backTo pos (starEach es env)) (backToKw pos (keywordEach kws env))) Q E s2) E s1) E s)
  (he : eval (.Call (.Attribute o m apos) es kws pos) env = (do
   let ov ← eval o env
   standAt apos.atName
   let (f, first) ← holding [ov] (do pure (← getAttr ov m true, []))
   callWith pos f first (backTo pos (starEach es env)) (backToKw pos (keywordEach kws env)))) : wpAny M A (eval (.Call (.Attribute o m apos) es kws pos) env) Q E s := by
 rw [he]
 refine wpAny_bind (wpAny_mono h (fun ov s₁ h₁ => wpAny_bind (wpAny_standAt (wpAny_bind (wpAny_holding (wpAny_bind (wpAny_mono h₁ (fun f s₂ h₂ => wpAny_pure ?_) fun _ _ x => x)))))) fun _ _ x => x)
 exact h₂
theorem Zsc {E : XK} (he : PE X o ta) (r : CRead X.K C mc) (c : CMet X.K C mc m p g) (F : FnRV X.prog X.w X.K X.mg X.base CX k g n ks gV sp) (hr : Room k X.A) (hx : Passes CX X E) (ha : PA X (e :: es) t) (hkw : PK X kws tk)
  (hall : (backToKw pos (keywordEach kws X.env)).all (·.1.isSome) = true := by rfl) (hks : (backToKw pos (keywordEach kws X.env)).filterMap (·.1) = ks := by rfl)
  (hst : starEach (e :: es) X.env = (false, eval e X.env) :: starEach es X.env := by rfl)
  (hpl : ((backTo pos (starEach (e :: es) X.env)).any (·.1) || (backToKw pos (keywordEach kws X.env)).any (·.1.isNone)) = false := by rfl)
  (ht : eval (.Call (.Attribute o m apos) (e :: es) kws pos) X.env = (do
   let ov ← eval o X.env
   standAt apos.atName
   let (f, first) ← holding [ov] (do pure (← getAttr ov m true, []))
   callWith pos f first (backTo pos (starEach (e :: es) X.env)) (backToKw pos (keywordEach kws X.env))) := by rfl) :
  PE X (.Call (.Attribute o m apos) (e :: es) kws pos) (Zk5 C n ks.length gV sp E ta t tk) := by
 refine ⟨fun pins s σ H Q I h => ?_⟩
 refine Zup (thn (he.run pins s σ H _ I h) fun u s1 ⟨x, H1, I1, rx, ex, q⟩ => ?_) ht
 subst ex
 obtain rfl : u = Value.ref C := rx
 refine getcmet_ok I1 r c fun s2 I2 => ?_
 refine PySem.W.callWith_of (P := PySem.W.MethP X.K s1.heap.objs.size g (.ref C)) (first := []) hpl (PySem.W.keeps_M c.fi) (PyProof.Rows.evalArgs_kw2 hall (thn (ha.run pos _ s2 σ H1 _ I2 q) fun us s3 ⟨vs, H2, I3, rv, q2⟩ => ?_) hst)
 refine thn (hkw.run pos _ s3 σ H2 _ I3 q2) fun ws s4 ⟨zs, H3, I4, rz, q3⟩ => ⟨⟨pin_at I4, I4.kIn⟩, ?_⟩
 show wpAny _ _ (call (.ref s1.heap.objs.size) us (((backToKw pos (keywordEach kws X.env)).filterMap (·.1)).zip ws)) _ _ s4
 rw [hks]
 exact Z1i F hr hx I4 rv rz q3
theorem Zpr (he : PE X o ta) (r : CRead X.K C mc) (c : CMet X.K C mc m p g) (F : FnRV X.prog X.w X.K X.mg X.base CX k g n ks gV sp) (hr : Room k X.A) (hx : ∀ σ, PassesAt CX X σ (E σ)) (ha : PA X (e :: es) t) (hkw : PK X kws tk)
  (hall : (backToKw pos (keywordEach kws X.env)).all (·.1.isSome) = true := by rfl) (hks : (backToKw pos (keywordEach kws X.env)).filterMap (·.1) = ks := by rfl)
  (hst : starEach (e :: es) X.env = (false, eval e X.env) :: starEach es X.env := by rfl)
  (hpl : ((backTo pos (starEach (e :: es) X.env)).any (·.1) || (backToKw pos (keywordEach kws X.env)).any (·.1.isNone)) = false := by kernel_rfl)
  (ht : eval (.Call (.Attribute o m apos) (e :: es) kws pos) X.env = (do
   let ov ← eval o X.env
   standAt apos.atName
   let (f, first) ← holding [ov] (do pure (← getAttr ov m true, []))
   callWith pos f first (backTo pos (starEach (e :: es) X.env)) (backToKw pos (keywordEach kws X.env))) := by kernel_rfl) :
  PE X (.Call (.Attribute o m apos) (e :: es) kws pos) (Ze7 C n ks.length gV sp E ta t tk) := by
 refine ⟨fun pins s σ H Q I h => ?_⟩
 refine Zup (thn (he.run pins s σ H _ I h) fun u s1 ⟨x, H1, I1, rx, ex, q⟩ => ?_) ht
 subst ex
 obtain rfl : u = Value.ref C := rx
 refine getcmet_ok I1 r c fun s2 I2 => ?_
 refine PySem.W.callWith_of (P := PySem.W.MethP X.K s1.heap.objs.size g (.ref C)) (first := []) hpl (PySem.W.keeps_M c.fi) (PyProof.Rows.evalArgs_kw2 hall (thn (ha.run pos _ s2 σ H1 _ I2 q) fun us s3 ⟨vs, H2, I3, rv, q2⟩ => ?_) hst)
 refine thn (hkw.run pos _ s3 σ H2 _ I3 q2) fun ws s4 ⟨zs, H3, I4, rz, q3⟩ => ⟨⟨pin_at I4, I4.kIn⟩, ?_⟩
 show wpAny _ _ (call (.ref s1.heap.objs.size) us (((backToKw pos (keywordEach kws X.env)).filterMap (·.1)).zip ws)) _ _ s4
 rw [hks]
 exact Zxc F hr (hx σ) I4 rv rz q3
end
instance {P : Program} {w : World} {S : Sc} {vs vs1 : List Nat} {te : TE} {de : DE} {tt tt1 : TT} {dt dt1 : DT} {i i1 : TI} {di di1 : DI} {g g1 : TG} {dg dg1 : DG} [h0 : KOw g vs] [h0' : KOw g1 vs1] [h1 : SmI P w S i di] [h2 : SmG P w S g dg] [h3 : SmT P w S tt dt] [h4 : SmI P w S i1 di1] [h5 : SmG P w S g1 dg1] [h6 : SmT P w S tt1 dt1] [h7 : SmE P w S te de] : SmE P w S (tLc2 i g tt i1 g1 tt1 te vs vs1) (dLc2 di dg dt di1 dg1 dt1 de vs vs1) := ⟨Ztt h0.s h0'.s h1.s h2.s h3.s h4.s h5.s h6.s h7.s⟩
instance {P : Program} {w : World} {S : Sc} {to : TE} {do_ : DE} {ta tb : TA} {da db : DA} {k : Cn} {n m : Nat} {g : DSp} {E : XK} {Ed : DX} [h0 : SmX S Ed E] [h1 : SmE P w S to do_] [h2 : SmA P w S ta da] [h3 : SmA P w S tb db] : SmE P w S (Zk5 (ga S.K k.str) n m catV (spD S.K S.cs g) E to ta tb) (Zje k n m catD g Ed do_ da db) :=
 ⟨Zr5 h0.s (fun _ _ _ _ _ a b => a.append b) h1.s h2.s h3.s⟩
theorem Zrg (i j : Nat) : GOwn (gName i) [i, j] := fun x σ H Q h => ⟨by
 show (((((σ.set j none).set i none).set i (some x)).set j none).set i none) = (σ.set j none).set i none
 rw [Qy]
 by_cases e : i = j
 ·subst e
  rw [Qy, Qy, Qy]
 ·rw [Tb _ _ (fun h => e h.symm), Qy, Tb _ _ e, Qy, Tb _ _ (fun h => e h.symm)], h⟩
instance {i j : Nat} : KOw (gName i) [i, j] := ⟨Zrg i j⟩
class KCmV (P : Program) (w : World) (K : PySem.W.Frag) (mg : Str → Option Value) (base : Heap) (cs : List Cn) (c : Cn) (g : DSp) (gV : List V → List V → List V) (m : outParam Str) (n : outParam Nat) (ks : outParam (List Str)) (k : outParam Nat) : Prop where
 ex : ∃ p f, CRead K (ga K c.str) (.type "type") ∧ CMet K (ga K c.str) (.type "type") m p f ∧ FnRV P w K mg base (L2.CX P w) k f n ks gV (spD K cs g)
section
variable {X : Cx} {e o : Expr} {es : List Expr} {t tk : TA} {to : TE} {pos apos : Pos} {E : XK} {g : DSp} {k j n : Nat} {m : Str} {cs : List Cn} {c : Cn} {gV : List V → List V → List V} {ks : List Str} {kws : List Keyword}
theorem Zx2 {nk : Nat} [F : KCmV X.prog X.w X.K X.mg X.base cs c g gV m n ks k] (hm : Nat.ble 29 es.length = true) (hn : nk = ks.length) (ho : PE X o to) (hr : Room j X.A) (hk : k ≤ j) (hx : Passes (L2.CX X.prog X.w) X E) (ha : PA X (e :: es) t) (hkw : PK X kws tk)
  (hall : (backToKw pos (keywordEach kws X.env)).all (·.1.isSome) = true) (hks : (backToKw pos (keywordEach kws X.env)).filterMap (·.1) = ks)
  (hs : starEach (e :: es) X.env = (false, eval e X.env) :: starEach es X.env) (hp : ((backTo pos (starEach (e :: es) X.env)).any (·.1) || (backToKw pos (keywordEach kws X.env)).any (·.1.isNone)) = false)
  (ht : eval (.Call (.Attribute o m apos) (e :: es) kws pos) X.env = (do
   let ov ← eval o X.env
   standAt apos.atName
   let (f, first) ← holding [ov] (do pure (← getAttr ov m true, []))
   callWith pos f first (backTo pos (starEach (e :: es) X.env)) (backToKw pos (keywordEach kws X.env)))) : PE X (.Call (.Attribute o m apos) (e :: es) kws pos) (Zk5 (ga X.K c.str) n nk gV (spD X.K cs g) E to t tk) := by
 subst hn
 obtain ⟨p, f, cr, cm, ok⟩ := F.ex
 exact Zsc ho cr cm ok (hr.mono hk) hx ha hkw hall hks hs hp ht
end
theorem gFa2 {α β : Sort _} {γ : Sort _} {a b : α → β → γ} (h : ∀ x y, a x y = b x y) : ∀ x y, a x y = b x y := h
theorem fnV {P : Program} {w : World} {K : PySem.W.Frag} {mg : Str → Option Value} {base : Heap} {cs : List Cn} {x qual : Str} {params : Arguments} {body : List Stmt} {scope : Scope} {kws : List (Str × V)} {f : Addr} {fd : FuncData} {N ps : List Str} {pv : Str} {k n : Nat} {ks : List Str} {gg : List Value → List Value → List Value} {gV : List V → List V → List V} {g : DSp} {r : DX → DS}
  (F : FunD K x qual params body scope [] kws f fd) (S : FnScope N (ps ++ [pv]) scope) (hb : Zws K fd ps pv n ks gg)
  (hg : ∀ (vs zs : List V) (us ws : List Value), Vals vs us → Vals zs ws → Vals (gV vs zs) (gg us ws)) (hl : ∀ vs zs : List V, vs.length = n → zs.length = ks.length → (gV vs zs).length = ps.length)
  (ref : ∀ ds M Q E, g ds M Q E → r (Zbf M E) { nx := fun _ M' => Zad M Q (.v .non) M', rt := Zad M Q } (Zae N.length ds) M)
  (h : KB (L2.CX P w) P w K mg base cs N qual scope f k body r) : FnRV P w K mg base (L2.CX P w) (k + 1) f n ks gV (spD K cs g) := by
 refine FunD.Z68 F S StX.cxUp hb hg hl (fun cdv A outer s H vs Q E hr hsp => ?_)
 obtain ⟨c, M, ds, Qd, Ed, rfl, rl, ra, hgd, hq, he⟩ := hsp
 have hq' : ∀ c' M' v d, Step c M c' M' → Rel K cs c' M' → RpD K cs c'.F c'.ρ d v → Zad M Qd d M' → Q v c'.H := fun c' M' v d s r p ⟨q1, q2, q3⟩ => by
  obtain ⟨r2, s2, e2⟩ := rl.cut r s q2
  exact hq ⟨c'.F, c'.ρ.take M.length, c'.H⟩ _ v d s2 r2 (p.low q1) q3
 have he' : ∀ c' M' cls d e, Step c M c' M' → Rel K cs c' M' → RpX K cs c' e cls d → Zbf M Ed e M' → E cls d c'.H := fun c' M' cls d e s r p ⟨q2, q3⟩ => by
  obtain ⟨r2, s2, e2⟩ := rl.cut r s q2
  exact he ⟨c'.F, c'.ρ.take M.length, c'.H⟩ _ cls d e s2 r2 p q3
 obtain ⟨t, hs, hp⟩ := h cdv A outer s c.H E c M (Zbf M Ed) S.nd hr he'
 exact ⟨t, hp, hs c M (L2.start N vs) (Zae N.length ds) _ { nx := fun _ M' => Zad M Qd (.v .non) M', rt := Zad M Qd } ⟨Step.refl _ _, rl⟩ (Ze8 ra) (ref ds M Qd Ed hgd) ⟨fun c' M' σ' ds' s r _ q => hq' c' M' .non (.v .non) s r rfl q, fun c' M' v d s r p q => hq' c' M' v d s r p q, fun _ _ _ _ _ _ _ q => q.elim, fun _ _ _ _ _ _ _ q => q.elim⟩⟩
theorem fnV.catL {n m : Nat} {vs zs : List V} (h1 : vs.length = n) (h2 : zs.length = m) : (catV vs zs).length = n + m := by unfold catV; rw [Qc, h1, h2]
def lvl {α : Type} (k : List α) : Nat → List (List α)
 | 0 => [[]]
 | n + 1 => (lvl k n).flatMap fun row => k.map fun s => row ++ [s]
def lotR {α : Type} (k : List α) (d : Nat) : List (List α) := (List.range (d + 1)).flatMap (lvl k)
section
variable {α β : Type} {k : List α}
theorem Zgb : ∀ {n : Nat} {x : List α}, x ∈ lvl k n → x.length = n
 | 0, x, h => by rw [Qq.mp h]; rfl
 | n + 1, x, h => by
  obtain ⟨r, hr, h⟩ := Q9.mp h
  obtain ⟨s, _, rfl⟩ := Qs.mp h
  rw [Qc, Zgb hr]
  rfl
theorem Zuq : ∀ {n : Nat} {x : List α}, x ∈ lvl k n → ∀ s ∈ x, s ∈ k
 | 0, x, h => by rw [Qq.mp h]; exact fun _ h => nomatch h
 | n + 1, x, h => by
  obtain ⟨r, hr, h⟩ := Q9.mp h
  obtain ⟨s, hs, rfl⟩ := Qs.mp h
  intro t ht
  rcases Q2.mp ht with h | h
  ·exact Zuq hr t h
  ·rw [Qq.mp h]; exact hs
theorem Zur (f : α → β) : ∀ n : Nat, (lvl k n).map (List.map f) = lvl (k.map f) n
 | 0 => rfl
 | n + 1 => by
  show ((lvl k n).flatMap _).map _ = (lvl (k.map f) n).flatMap _
  rw [← Zur f n, H7, List.flatMap_map]
  congr 1
  funext r
  rw [Qk, Qk]
  congr 1
  funext s
  show (r ++ [s]).map f = _
  rw [Q1]
  rfl
theorem Zd1 : ∀ n : Nat, (lvl k n).length = k.length ^ n
 | 0 => rfl
 | n + 1 => by
  show ((lvl k n).flatMap _).length = _
  rw [Li]
  simp only [Qb]
  rw [L0, G3, Zd1 n, Nat.pow_succ]
theorem Zdb {f : α → List β} : ∀ {l : List α}, l.Nodup → (∀ a ∈ l, (f a).Nodup) → (∀ a ∈ l, ∀ b ∈ l, ∀ y, y ∈ f a → y ∈ f b → a = b) → (l.flatMap f).Nodup
 | [], _, _, _ => Gh
 | a :: l, nd, h1, h2 => by
  rw [Hy, Hv]
  have nd' := Hd.mp nd
  refine ⟨h1 a Qp, Zdb nd'.2 (fun b hb => h1 b (Qh _ hb)) (fun b hb c hc => h2 b (Qh _ hb) c (Qh _ hc)), fun y hy z hz e => ?_⟩
  subst e
  obtain ⟨b, hb, hz⟩ := Q9.mp hz
  have := h2 a Qp b (Qh _ hb) y hy hz
  subst this
  exact nd'.1 hb
theorem Zn6 (nd : k.Nodup) : ∀ n : Nat, (lvl k n).Nodup
 | 0 => by simp [lvl]
 | n + 1 => by
  refine Zdb (Zn6 nd n) (fun r _ => ?_) (fun r _ r' _ y hy hy' => ?_)
  ·refine Ln _ (fun a b hab e => hab ?_) nd
   have := List.append_cancel_left e
   simpa using this
  ·obtain ⟨s, _, rfl⟩ := Qs.mp hy
   obtain ⟨s', _, e⟩ := Qs.mp hy'
   have := List.append_inj_left' e rfl
   exact this.symm
theorem Zut (nd : k.Nodup) (d : Nat) : (lotR k d).Nodup := Zdb List.nodup_range (fun n _ => Zn6 nd n) fun n _ m _ y hy hz => (Zgb hy).symm.trans (Zgb hz)
theorem Zmb {d : Nat} {x : List α} (h : x ∈ lotR k d) : x.length ≤ d ∧ ∀ s ∈ x, s ∈ k := by
 obtain ⟨n, hn, h⟩ := Q9.mp h
 have := Hu.mp hn
 exact ⟨by rw [Zgb h]; omega, Zuq h⟩
theorem Z1w (f : α → β) (d : Nat) : (lotR k d).map (List.map f) = lotR (k.map f) d := by
 unfold lotR
 rw [H7]
 congr 1
 funext n
 exact Zur f n
end
theorem Zs4 {ls vw : List Nat} {s1 s2 : List Stg} (ok1 : Zdd ls vw s1) (ok2 : Zdd ls vw s2) (sm : ∀ c ∈ ls, c ∈ small) (h : Zbp s1 = Zbp s2) : s1.map Stg.text = s2.map Stg.text := by
 by_cases h1 : s1 = []
 ·subst h1
  rw [Zf0 (h.symm.trans rfl)]
 ·by_cases h2 : s2 = []
  ·subst h2
   exact absurd (Zf0 (h.trans rfl)) h1
  ·rw [← Zhx h1 ok1 sm, ← Zhx h2 ok2 sm, h]
theorem Zus {ls vw : List Nat} {k : List Stg} {d : Nat} (oks : ∀ x ∈ lotR k d, Zdd ls vw x) (sm : ∀ c ∈ ls, c ∈ small) (nd : (k.map Stg.text).Nodup) : ((lotR k d).map Zbp).Nodup := by
 have h := Zut nd d
 rw [← Z1w] at h
 rw [List.Nodup, Gf] at h ⊢
 exact h.imp_of_mem fun ha hb hab e => hab (Zs4 (oks _ ha) (oks _ hb) sm e)
abbrev lotP (al : PV) (rs : List (List Stg)) : PV := .obj .Lot [al, .lst (rs.map (Zb6 al))]
def Zcb : DSp := fun ds M Q _ => ∃ ls vw sts, ds = [.v (alph ls vw), .v (.tup ((sts.map Stg.text).map PV.str))] ∧ Zdd ls vw sts ∧ (∀ c ∈ ls, c ∈ small) ∧ sts.length ≤ 1000 ∧ Q (vL (sts.map (Stg.pv (alph ls vw)))) M
def Zce : DSp := fun ds M Q _ => ∃ n ls vw rs, ds = [.cell n, vL (rs.map (Zb6 (alph ls vw)))] ∧ M[n]? = some (some (.obj .Lot [])) ∧ rs ≠ [] ∧ rs.length ≤ 1000 ∧ (∀ r ∈ rs, Zdd ls vw r ∧ r.length ≤ 10) ∧ (rs.map Zbp).Nodup ∧
 Q (.v .non) (M.set n (some (.obj .Lot [.v (alph ls vw), vL (rs.map (Zb6 (alph ls vw)))])))
def Zfm : DSp := fun ds M Q _ => ∃ al rs, ds = [.v (lotP al rs)] ∧ Q (vI rs.length) M
def Zbb : DSp := fun ds M Q _ => ∃ al ls vw rs, ds = [.v (lotP al rs)] ∧ (∀ r ∈ rs, Zdd ls vw r ∧ r.length ≤ 10) ∧ rs.length ≤ 1000 ∧ Q (.cell M.length) (M ++ [some (.lst (rs.map fun r => vS (Zbp r)))])
section
variable (ds : List D) (M : Mem) (Q : DQ) (E : DX)
theorem Zgc (h : Zcb ds M Q E) : ds.length = 2 := by obtain ⟨_, _, _, rfl, _⟩ := h; rfl
theorem Zj2 (h : Zce ds M Q E) : ds.length = 2 := by obtain ⟨_, _, _, _, rfl, _⟩ := h; rfl
theorem Zme (h : Zfm ds M Q E) : ds.length = 1 := by obtain ⟨_, _, rfl, _⟩ := h; rfl
theorem Ziw (h : Zbb ds M Q E) : ds.length = 1 := by obtain ⟨_, _, _, _, rfl, _⟩ := h; rfl
end
section
variable {ds : DSt} {M : Mem} {te : DE} {P : List PV → Mem → Prop} {i j : Nat} {it1 : DI} {vs1 : List Nat}
theorem Zou {β : Type} (i1 : β → D) (f : β → PV) : ∀ (ys : List β) (acc : List PV), acc.length + ys.length ≤ sizeLine → (∀ y ∈ ys, ∀ Q : DQ, Q (.v (f y)) M → te (ds.set j (some (i1 y))) M Q) → P (acc ++ ys.map f) M → Zdr (hName j) dYes te ds P (ys.map i1) acc M
 | [], acc, _, _, h => by rw [Lq, Qv] at h; exact h
 | y :: ys, acc, hl, ht, h => by
  rw [Qe] at hl
  refine Zkr ?_
  refine Zu4 ?_
  show te _ M _
  refine ht y Qp _ ⟨_, rfl, by omega, ?_⟩
  refine Zou i1 f ys _ (by rw [Qc]; simp only [Qe, Qm]; omega) (fun z hz => ht z (Qh _ hz)) ?_
  rw [Hi]
  exact h
theorem Zkz {α β : Type} (i0 : α → D) (i1 : β → D) (ys : List β) (f : α → β → PV) : ∀ (xs : List α) (acc : List PV), acc.length + xs.length * ys.length ≤ sizeLine →
  (∀ x ∈ xs, ∀ QI : List D → Mem → Prop, QI (ys.map i1) M → it1 (ds.set i (some (i0 x))) M QI) → (∀ x ∈ xs, ∀ y ∈ ys, ∀ Q : DQ, Q (.v (f x y)) M → te ((Zbl (ds.set i (some (i0 x))) vs1).set j (some (i1 y))) M Q) →
  P (acc ++ xs.flatMap fun x => ys.map (f x)) M → Zek (hName i) dYes it1 (hName j) dYes te vs1 ds P (xs.map i0) acc M
 | [], acc, _, _, _, h => by rw [H8, Qv] at h; exact h
 | x :: xs, acc, hl, h1, h2, h => by
  rw [Qe, Td] at hl
  refine Zkr ?_
  refine Zu4 ?_
  show it1 _ M _
  refine h1 x Qp _ ?_
  refine Zou i1 (f x) ys acc (by omega) (fun y hy => h2 x Qp y hy) ?_
  refine Zkz i0 i1 ys f xs _ (by rw [Qc, Qb]; omega) (fun z hz => h1 z (Qh _ hz)) (fun z hz => h2 z (Qh _ hz)) ?_
  rw [Hi]
  rw [Hy] at h
  exact h
end
theorem Z8l {it : DI} {g : DG} {t : DT} {it1 : DI} {g1 : DG} {t1 : DT} {e : DE} {vs vs1 : List Nat} {ds : DSt} {M : Mem} {Q : DQ} (h : it ds M fun xs M1 => Zek g t it1 g1 t1 e vs1 (Zbl ds vs) (fun acc M2 => Q (vL acc) M2) xs [] M1) : dLc2 it g t it1 g1 t1 e vs vs1 ds M Q := h
instance {it : DI} {g : DG} {t : DT} {it1 : DI} {g1 : DG} {t1 : DT} {e : DE} {vs vs1 : List Nat} {ds : DSt} {M : Mem} {Q : DQ} : Wg (dLc2 it g t it1 g1 t1 e vs vs1 ds M Q) (it ds M fun xs M1 => Zek g t it1 g1 t1 e vs1 (Zbl ds vs) (fun acc M2 => Q (vL acc) M2) xs [] M1) := ⟨Z8l⟩
theorem Zxz {k : Cn} {n m : Nat} {gD : List D → List D → List D} {g : DSp} {Ed : DX} {o : DE} {a b : DA} {ds : DSt} {M : Mem} {Q : DQ} (h : o ds M fun x M1 => x = .v (.cls k) ∧ a ds M1 fun xs M2 => b ds M2 fun zs M3 =>
 ∃ ws rs, .v (.cls k) :: xs = ws ++ rs.map D.v ∧ ws.length = n ∧ zs.length = m ∧ rs.length ≤ sizeLine ∧ g (gD ws zs ++ [.v (.tup rs)]) M3 Q Ed) : Zje k n m gD g Ed o a b ds M Q := h
def Zbs : DS :=
 dSeq (dAsg (Zoq dNil) (hName 2)) (dSeq (dFor (jTup (dVar 1)) (hName 3) (Zeh (dBm tyL uApp (dVar 2) (Zaa (Zd6 Zbn noX (Zaa (dVar 0) (Zaa (dVar 3) dNil))) dNil)))) (dRet (dFrz (dVar 2))))
def Zc7 : DS :=
 dSeq (dIfS (dNot (dTru (dVar 1))) Zjb Zam) (dSeq (dAsg (dLc (jLst (dVar 1)) (hName 3) dYes (Zd5 (gm1 .Rule Za9) [] noX (dVar 3) dNil) [3]) (hName 2)) (dSeq (dFor (Zof (Zaa (dCB uLen (Zaa (dVar 1) dNil)) dNil)) (hName 4) (dIfS (dOr (Zah (dOp (uNeO .Alphabet Zar) (dFld (dOp uIx (dVar 1) (dVar 4)) .alphabet) (dFld (dOp uIx (dVar 1) (dC (.int 0))) .alphabet))) (Zah (dOp uIn (dOp uIx (dVar 2) (dVar 4)) (dSl uSl (dVar 2) Za2 (Zcw (dVar 4)))))) Zjb Zam)) (dSeq (dStF (dVar 0) (dFld (dOp uIx (dVar 1) (dC (.int 0))) .alphabet) .alphabet) (dStF (dVar 0) (dCB Zo5 (Zaa (dVar 1) dNil)) .rules))))
def Zdy : DS :=
 dRet (dCB uLen (Zaa (dFld (dVar 0) .rules) dNil))
def Zcn : DS :=
 dRet (dLcC (jLst (dFld (dVar 0) .rules)) (hName 1) dYes (Zd5 (gm1 .Rule Za9) [] noX (dVar 1) dNil) [1])
local macro_rules | `(tactic| walk_at "fz") => `(tactic| repeat with_reducible refine Wg.go ?_)
local macro_rules | `(tactic| walk_at "dw") => `(tactic| (((first | with_reducible refine Zz0 (by with_unfolding_all exact rfl) ?_ | fail); walk_at "fz"); walk_at "dw"))
local macro_rules | `(tactic| walk_at "dw") => `(tactic| (((first | with_reducible refine k_enum ?_ | fail); walk_at "fz"); walk_at "dw"))
theorem Zzb {α : Type} {f : α → PV} {xs : List α} {i : Nat} {x : D} (h : ((xs.map f).map D.v)[i]? = some x) : ∃ y, xs[i]? = some y ∧ x = .v (f y) := by
 rw [Qk, Ql] at h
 cases hp : xs[i]? with
 | none => rw [hp] at h; cases h
 | some p => rw [hp] at h; cases h; exact ⟨p, rfl, rfl⟩
theorem Zpn (ds : List D) (M : Mem) (Q : DQ) (E : DX) (h : Zfm ds M Q E) : Zdy { nx := fun _ M' => Zad M Q (.v .non) M', rt := Zad M Q } (Zae 1 ds) M := by
 obtain ⟨al, rs, rfl, q⟩ := h
 show Zdy _ [some (.v (lotP al rs))] M
 unfold Zdy
 walk_at "dz"
 rw [Qb]
 exact Zak q
theorem Zl0 (ds : List D) (M : Mem) (Q : DQ) (E : DX) (h : Zbb ds M Q E) : Zcn { nx := fun _ M' => Q (.v .non) M', rt := Q } (Zae 2 ds) M := by
 obtain ⟨al, ls, vw, rs, rfl, ok, hl, q⟩ := h
 show Zcn _ [some (.v (lotP al rs)), none] M
 unfold Zcn
 walk_at "dz"
 refine Zv4 (fun i M' => M' = M ++ [some (.lst ((rs.take i).map fun r => vS (Zbp r)))]) rfl ?_ ?_
 ·rintro i x M1 N hx rfl hN
  obtain ⟨r, hr, rfl⟩ := Zzb hx
  have hi := (Qa.mp hr).1
  have hm := ok r (Qr hr)
  walk_at "dz"
  refine ⟨al, ls, vw, r, rfl, hm.1, hm.2, ?_⟩
  refine ⟨_, Qj .., by rw [Qb, Qw, sizeLine_eq]; omega, ?_⟩
  refine hN _ ?_
  rw [Zbi, Hw, hr, Gu, Q1]
  rfl
 ·rintro M1 rfl
  rw [Qb, Qb, Q8]
  exact q
theorem Zie (ds : List D) (M : Mem) (Q : DQ) (E : DX) (h : Zcb ds M Q E) : Zbs { nx := fun _ M' => Zad M Q (.v .non) M', rt := Zad M Q } (Zae 5 ds) M := by
 obtain ⟨ls, vw, sts, rfl, ok, sm, hl, q⟩ := h
 show Zbs _ [some (.v (alph ls vw)), some (.v (.tup ((sts.map Stg.text).map PV.str))), none, none, none] M
 unfold Zbs
 walk_at "dz"
 refine Zc0 (fun i ds M' => ∃ v3, M' = M ++ [some (.lst (((sts.take i).map (Stg.pv (alph ls vw))).map D.v))] ∧ ds = [some (.v (alph ls vw)), some (.v (.tup ((sts.map Stg.text).map PV.str))), some (.cell M.length), v3, none]) ⟨_, rfl, rfl⟩ ?_ ?_
 ·rintro i x ds M1 N hx ⟨v3, rfl, rfl⟩ hN
  rw [show (sts.map Stg.text).map PV.str = sts.map (fun s => PV.str s.text) from Qk ..] at hx
  obtain ⟨st, hst, rfl⟩ := Zzb hx
  have hi := (Qa.mp hst).1
  have hti : (((sts.take i).map (Stg.pv (alph ls vw))).map D.v).length = i := by
   rw [Qb, Qb, Qw]
   omega
  walk_at "dz"
  refine Z1x Zpt ?_
  walk_at "dz"
  refine Zz8 (ok st (Qr hst)) sm ?_
  walk_at "dz"
  refine Zvj (by rw [hti, sizeLine_eq]; omega) ?_
  refine hN _ _ ⟨_, ?_, rfl⟩
  rw [Hw, hst, Gu, Q1, Q1]
  rfl
 ·rintro ds M1 ⟨v3, rfl, rfl⟩
  have e : sts.take (((sts.map Stg.text).map PV.str).map D.v).length = sts := by
   rw [Qb, Qb, Qb]
   exact Q8
  rw [e]
  walk_at "dz"
  refine ⟨_, _, Zmk (Qj ..), ?_⟩
  rw [Zbi]
  exact Z0m q
theorem Z5o {M : Mem} {Q : DQ} {z : List Nat} {zs : List (List Nat)} {xs : List PV} (e : xs = zs.map PV.str) (h : Q (vB (decide (z ∈ zs))) M) : uIn (vS z) (vT xs) M Q := by
 subst e
 refine Or.inr ⟨.str z, _, _, rfl, rfl, Zbg _, rfl, ?_, ?_⟩
 ·rw [List.all_map]
  exact Q6.mpr fun _ _ => rfl
 ·rw [Gv, show ((zs.map PV.str).any fun y => y.eqF (.str z)) = decide (z ∈ zs) by rw [List.any_map, Hm, Lr, decide_eq_true_iff]; exact ⟨fun ⟨y, hy, e⟩ => by (have e' : y = z := of_decide_eq_true e); exact e' ▸ hy, fun hz => ⟨z, hz, decide_eq_true rfl⟩⟩]
  exact h
theorem Zum {α : Type} [DecidableEq α] {l : List α} (nd : l.Nodup) {i : Nat} {x : α} (h : l[i]? = some x) : x ∉ l.take i := fun m => by
 obtain ⟨j, hj⟩ := List.mem_iff_getElem?.mp m
 have hji : j < i := by
  have := (Qa.mp hj).1
  rw [Qw] at this
  omega
 rw [Hc hji] at hj
 have hi := (Qa.mp h).1
 have := (List.getElem?_inj (by omega) nd).mp (hj.trans h.symm)
 omega
theorem Z6s {ls vw : List Nat} {M : Mem} {Q : DQ} (h : Q (vB false) M) : uNeO .Alphabet Zar (.v (alph ls vw)) (.v (alph ls vw)) M Q := ⟨_, _, rfl, rfl, ls, vw, ls, vw, rfl, _, rfl, by rw [decide_eq_true rfl, decide_eq_true rfl]; exact h⟩
theorem Zq8 {al : PV} {rs : List (List Stg)} {i : Nat} {r : List Stg} (h : rs[i]? = some r) : (rs.map (Zb6 al))[i]? = some (Zb6 al r) := by rw [Ql, h]; rfl
theorem Znv (ds : List D) (M : Mem) (Q : DQ) (E : DX) (h : Zce ds M Q E) : Zc7 { nx := fun _ M' => Q (.v .non) M', rt := Q } (Zae 5 ds) M := by
 obtain ⟨n, ls, vw, rs, rfl, hm, hne, hl, ok, nd, q⟩ := h
 show Zc7 _ [some (.cell n), some (vL (rs.map (Zb6 (alph ls vw)))), none, none, none] M
 unfold Zc7
 have hll : (rs.map (Zb6 (alph ls vw))).length = rs.length := Qb ..
 obtain ⟨r0, rt, hr0⟩ := List.exists_cons_of_ne_nil hne
 have h0 : (rs.map (Zb6 (alph ls vw)))[0]? = some (Zb6 (alph ls vw) r0) := Zq8 (by rw [hr0]; rfl)
 walk_at "dz"
 rw [show (rs.map (Zb6 (alph ls vw))).isEmpty = false by rw [hr0]; rfl]
 walk_at "dz"
 rw [show (rs.map (Zb6 (alph ls vw))).map D.v = rs.map (fun r => D.v (Zb6 (alph ls vw) r)) from Qk ..]
 refine Zft (fun r => D.v (Zb6 (alph ls vw) r)) rs (fun r => PV.str (Zbp r)) (show 3 < 5 by decide) (by rw [sizeLine_eq]; omega) (fun r hr Q' q' => ?_) ?_
 ·have hk := ok r hr
  walk_at "dz"
  exact ⟨_, ls, vw, r, rfl, hk.1, hk.2, q'⟩
 walk_at "dz"
 refine ⟨_, rfl, by omega, by omega, ?_⟩
 rw [Gg, hll]
 refine Zc0 (fun i ds M' => M' = M ∧ ∃ v4, ds = [some (.cell n), some (vL (rs.map (Zb6 (alph ls vw)))), some (vL (rs.map fun r => PV.str (Zbp r))), none, v4]) ⟨rfl, _, rfl⟩ ?_ ?_
 ·rintro i x ds M1 N hx ⟨rfl, v4, rfl⟩ hN
  have hi : i < rs.length := by
   have := (Qa.mp hx).1
   rwa [Qb, Hx] at this
  obtain rfl := Zls hx
  obtain ⟨r, hr⟩ : ∃ r, rs[i]? = some r := ⟨_, Qf hi⟩
  have htx : (rs.map fun r => PV.str (Zbp r))[i]? = some (.str (Zbp r)) := by rw [Ql, hr]; rfl
  walk_at "dz"
  refine Ziz (atI_nat (Zq8 hr)) ?_
  walk_at "dz"
  refine Ziz (atI_nat (i := 0) h0) ?_
  walk_at "dz"
  refine Z6s ?_
  walk_at "dz"
  refine Ziz (atI_nat htx) ?_
  walk_at "dz"
  rw [Zot]
  refine Z8o (zs := (rs.map Zbp).take i) (by rw [← Hn, ← Hn, Qk]; rfl) ?_
  rw [decide_eq_false (Zum nd (by rw [Ql, hr]; rfl))]
  walk_at "dz"
  exact hN _ _ ⟨rfl, _, rfl⟩
 ·rintro ds M1 ⟨rfl, v4, rfl⟩
  walk_at "dz"
  refine Ziz (atI_nat (i := 0) h0) ?_
  walk_at "dz"
  have hn : n < M1.length := (Qa.mp hm).1
  refine ⟨n, _, _, rfl, hm, Qz _, by decide, ?_⟩
  walk_at "dz"
  refine ⟨n, _, _, rfl, Qt hn, Qz _, by decide, ?_⟩
  show Q _ (List.set (List.set M1 n _) n _)
  rw [Qy]
  exact q
theorem Zwa {M : Mem} {Q : DQ} {X : DX} {ls vw : List Nat} {rs : List (List Stg)} (hne : rs ≠ []) (hl : rs.length ≤ 1000) (ok : ∀ r ∈ rs, Zdd ls vw r ∧ r.length ≤ 10) (nd : (rs.map Zbp).Nodup) (h : Q (.v (lotP (alph ls vw) rs)) M) : Zce [.cell M.length, vL (rs.map (Zb6 (alph ls vw)))] (M ++ [some (.obj .Lot [])]) (mkQ .Lot M Q) (Zbf M X) := by
 refine ⟨M.length, ls, vw, rs, rfl, Qj .., hne, hl, ok, nd, ?_⟩
 exact Zd0 (ps := [alph ls vw, .lst (rs.map (Zb6 (alph ls vw)))]) h
def mny (n : Nat) : Nat → Nat
 | 0 => 1
 | i + 1 => mny n i + n ^ (i + 1)
theorem Zio {α : Type} (k : List α) (d : Nat) : lotR k (d + 1) = lotR k d ++ lvl k (d + 1) := by
 unfold lotR
 rw [List.range_succ (n := d + 1), List.flatMap_append, Hy, H8, Qv]
theorem Zca {α : Type} (k : List α) : ∀ d : Nat, (lotR k d).length = mny k.length d
 | 0 => rfl
 | d + 1 => by rw [Zio, Qc, Zca k d, Zd1]; rfl
theorem Zho (n : Nat) : ∀ {i d : Nat}, i ≤ d → mny n i ≤ mny n d
 | i, 0, h => by
  obtain rfl : i = 0 := by omega
  exact Qz _
 | i, d + 1, h => by
  by_cases e : i = d + 1
  ·rw [e]; exact Qz _
  ·exact Hb (Zho n (by omega : i ≤ d)) (Ls _ _)
def encL (al : PV) (r : List Stg) : PV := .lst (r.map (Stg.pv al))
def Zk3 : Kd → Option Bool
 | .t n => if n = "list" then some true else none
 | _ => none
def Zfs (k : Cn) (n m : Nat) (gD : List D → List D → List D) (g : DSp) (W : DSt → DX) (o : DE) (a b : DA) : DE := fun ds M Q => o ds M fun x M1 => x = .v (.cls k) ∧ a ds M1 fun xs M2 => b ds M2 fun zs M3 =>
 ∃ ws rs, .v (.cls k) :: xs = ws ++ rs.map D.v ∧ ws.length = n ∧ zs.length = m ∧ rs.length ≤ sizeLine ∧ g (gD ws zs ++ [.v (.tup rs)]) M3 Q (W ds)
section
variable {S : Sc} {to : TE} {do_ : DE} {ta tb : TA} {da db : DA}
theorem Zpg {k : Cn} {n m : Nat} {gD : List D → List D → List D} {gV : List V → List V → List V} {g : DSp} {W : WX} {Wd : DSt → DX} (pw : PoW S Wd W)
  (hg : ∀ (c : CS) (ds es : List D) (vs zs : List V), S.Ld c ds vs → S.Ld c es zs → S.Ld c (gD ds es) (gV vs zs)) (ho : SimE S to do_) (ha : SimA S ta da) (hb : SimA S tb db) :
  SimE S (Ze7 (ga S.K k.str) n m gV (spD S.K S.cs g) (WE W) to ta tb) (Zfs k n m gD g Wd do_ da db) := fun c M σ ds Q Qd ok rs q po =>
 ho c M σ ds _ _ ok rs q fun c0 M0 v0 d0 s0 r0 p0 ⟨e0, q0⟩ => by
  subst e0
  have ok0 := ok.step s0 r0
  refine ⟨p0, ha c0 M0 σ ds _ _ ok0 (rs.step s0) q0 fun c1 M1 v1 d1 s1 r1 p1 q1 => ?_⟩
  have ok1 := ok0.step s1 r1
  refine hb c1 M1 σ ds _ _ ok1 ((rs.step s0).step s1) q1 fun c2 M2 v2 d2 s2 r2 p2 ⟨ws, ps, e, h1, h2, hz, q2⟩ => ?_
  have ok2 := ok1.step s2 r2
  have pc : S.Ld c2 (.v (.cls k) :: d1) (V.ref (ga S.K k.str) :: v1) := .cons (show RpD S.K S.cs c2.F c2.ρ (.v (.cls k)) _ from rfl) (Sc.Ld.step p1 s2)
  rw [e] at pc
  obtain ⟨u1, u2, eu, t1, t2⟩ := A2.split pc
  have hvl : u2.length ≤ sizeLine := by rw [← t2.len, Qb]; exact hz
  refine ⟨u1, u2, eu, by rw [← t1.len]; exact h1, by rw [← p2.len]; exact h2, hvl, fun p hp => ?_⟩
  obtain ⟨r3, s3⟩ := r2.lay hp (.tup u2)
  have pr2 : RpL S.K S.cs c2.F ps u2 := Zbu t2 (Zbg ps)
  have tg := hg _ _ _ _ _ t1 p2
  have tt : S.Vd ⟨upd c2.F p (.tup u2), c2.ρ, upd c2.H p (.tup u2)⟩ (.v (.tup ps)) (.ref p) := ⟨p, u2, rfl, .inl (.inl upd_same), RpL.same s3.same _ _ pr2⟩
  have ok3 := ok2.step s3 r3
  exact Z0x ok3 ((Sc.Ld.step tg s3).append (.cons tt .nil)) q2 (po.step (s0.trans (s1.trans (s2.trans s3)))) (Z73 pw ok3 ((((rs.step s0).step s1).step s2).step s3))
end
theorem Zvh {k : Cn} {n m : Nat} {gD : List D → List D → List D} {g : DSp} {W : DSt → DX} {o : DE} {a b : DA} {ds : DSt} {M : Mem} {Q : DQ} (h : o ds M fun x M1 => x = .v (.cls k) ∧ a ds M1 fun xs M2 => b ds M2 fun zs M3 =>
 ∃ ws rs, .v (.cls k) :: xs = ws ++ rs.map D.v ∧ ws.length = n ∧ zs.length = m ∧ rs.length ≤ sizeLine ∧ g (gD ws zs ++ [.v (.tup rs)]) M3 Q (W ds)) : Zfs k n m gD g W o a b ds M Q := h
end Cl
namespace Cl.Kl
open PySem PySem.Spec PyProof.Rows L2 He ClX
def Zvp : DSp := fun ds M Q _ => ∃ ns, ds = [.v (.scr ns)] ∧ ns.length ≤ 63 ∧ ∀ M', Q (vB true) M'
theorem Zuz (ds : List D) (M : Mem) (Q : DQ) (E : DX) (h : Zvp ds M Q E) : ds.length = 1 := by obtain ⟨_, rfl, _⟩ := h; rfl
theorem Zth {K : PySem.W.Frag} {cs : List Cn} {H : Hp} {a : Addr} {ns : List Int} {Q : VK} {E : XK} (hl : ns.length ≤ 63) (h : SqL K H a (ns.map V.int)) (q : ∀ H', Q (.bl true) H') : spD K cs Zvp [.ref a] H Q E :=
 ⟨⟨H, [], H⟩, [], [.v (.scr ns)], fun d _ => d = vB true, fun _ _ => False, rfl, ⟨Same.refl _, rfl, Gh, (fun _ m => nomatch m), fun i a x e => by simp at e⟩, .cons ⟨a, rfl, h⟩ .nil, ⟨ns, rfl, hl, fun _ => rfl⟩, fun c' M' v d s r p q' => by subst q'; cases (show v = .bl true from p); exact q _, fun _ _ _ _ _ _ _ _ q => q.elim⟩
def tlsT : List (List Nat) := [[], [32, 101, 97, 99, 104], [32, 98, 117, 116, 32, 108, 97, 115, 116], [32, 101, 97, 99, 104, 32, 98, 117, 116, 32, 108, 97, 115, 116]]
def aftT : List (List Nat) := [[], [32, 97, 102, 116, 101, 114, 32, 49], [32, 97, 102, 116, 101, 114, 32, 50], [32, 97, 102, 116, 101, 114, 32, 51]]
def namT (ls : List Nat) : List (List Nat) := [[97, 108, 108], [108, 101, 116, 116, 101, 114, 115], [118, 111, 119, 101, 108, 115], [99, 111, 110, 115, 111, 110, 97, 110, 116, 115], [106, 111, 105, 110, 116, 115]] ++ (45 :: ls).map fun c => [91] ++ [c] ++ [93]
def frmT (ls : List Nat) : List (List Nat) := (namT ls).flatMap fun nm => aftT.flatMap fun a => tlsT.map fun t => [100, 114, 111, 112, 32] ++ nm ++ a ++ t
def Zaz : DSp := fun ds M Q E => ∃ ls vw sts, ∃ d : Nat, ds = [.v (.cls .Lot), .v (alph ls vw), vI d, .v (.tup ((sts.map Stg.text).map PV.str))] ∧ Zdd ls vw sts ∧ (∀ c ∈ ls, c ∈ small) ∧ sts.length ≤ 1000 ∧ d ≤ 3 ∧ (sts.map Stg.text).Nodup ∧
 ((lotR sts d).length ≤ 200 → Q (.v (lotP (alph ls vw) (lotR sts d))) M) ∧ (200 < (lotR sts d).length → E ⟨.TooMany, [.int (lotR sts d).length]⟩ M)
def Zfl : DSp := fun ds M Q _ => ∃ ls, ds = [vS ls] ∧ ls.length ≤ 8 ∧ Q (vL ((frmT ls).map PV.str)) M
def Zhp : DSp := fun ds M Q _ => ∃ ls vw sts, ds = [.v (alph ls vw), vL ((sts.map Stg.text).map PV.str)] ∧ Zdd ls vw sts ∧ (∀ c ∈ ls, c ∈ small) ∧ 200 ≤ sts.length ∧ sts.length ≤ 300 ∧ (sts.map Stg.text).Nodup ∧ Q (.v (lotP (alph ls vw) (lotR (sts.take 199) 1))) M
def Zfk : DSp := fun ds M Q _ => ∃ ls vw sts, ds = [.v (alph ls vw), vL ((sts.map Stg.text).map PV.str)] ∧ Zdd ls vw sts ∧ (∀ c ∈ ls, c ∈ small) ∧ 200 ≤ sts.length ∧ sts.length ≤ 300 ∧ (sts.map Stg.text).Nodup ∧ Q (vI 201) M
section
variable (ds : List D) (M : Mem) (Q : DQ) (E : DX)
theorem Zmd (h : Zfl ds M Q E) : ds.length = 1 := by obtain ⟨_, rfl, _⟩ := h; rfl
theorem Zoa (h : Zhp ds M Q E) : ds.length = 2 := by obtain ⟨_, _, _, rfl, _⟩ := h; rfl
theorem Zn9 (h : Zfk ds M Q E) : ds.length = 2 := by obtain ⟨_, _, _, rfl, _⟩ := h; rfl
end
def Zco (E : DX) : DS :=
 dSeq (dIfS (dNot (Zah (Zjd uLe uLe (dC (.int 0)) (dVar 2) (dC (.int 3))))) Zjb Zam) (dSeq (dAsg (Zd6 Zcb noX (Zaa (dVar 1) (Zaa (dVar 3) dNil))) (hName 4)) (dSeq (dFor (Zof (Zaa (dCB uLen (Zaa (dVar 3) dNil)) dNil)) (hName 5) (dIfS (Zah (dOp uIn (dOp uIx (dVar 3) (dVar 5)) (dSl uSlT (dVar 3) Za2 (Zcw (dVar 5))))) Zjb Zam)) (dSeq (dAsg (dC (.int 1)) (hName 6)) (dSeq (dAsg (dC (.int 1)) (hName 7)) (dSeq (dFor (Zof (Zaa (dVar 2) dNil)) (hName 8) (dSeq (dAsg (dOp uMul (dVar 7) (dCB uLen (Zaa (dVar 4) dNil))) (hName 7)) (Zyh 6 (dVar 7)))) (dSeq (dIfS (Zah (dOp uGt (dVar 6) (dC (.int 200)))) (Zct .TooMany E (Zaa (dVar 6) dNil)) Zam) (dSeq (dAsg (dLst (Zaa (dLst dNil) dNil)) (hName 9)) (dSeq (dAsg (dLst (Zaa (Zgw .Rule Zba noX (dC (.cls .Rule)) (Zaa (dVar 1) dNil)) dNil)) (hName 10)) (dSeq (dFor (Zof (Zaa (dVar 2) dNil)) (hName 8) (dSeq (dAsg (dLc2 (jLst (dVar 9)) (hName 11) dYes (jLst (dVar 4)) (hName 12) dYes (dLst (Zp8 (dVar 11) (Zaa (dVar 12) dNil))) [11, 12] [12]) (hName 9)) (dAsg (dOp uAdd (dVar 10) (dLc (jLst (dVar 9)) (hName 11) dYes (Zgw .Rule Zba noX (dC (.cls .Rule)) (Zaa (dVar 1) (Zp8 (dVar 11) dNil))) [11])) (hName 10)))) (dRet (Zop .Lot Zce noX (dVar 0) (Zaa (dVar 10) dNil))))))))))))
def Zdx : DS :=
 dSeq (dAsg (Zoq dNil) (hName 1)) (dSeq (dFor (jLst (dOp uAdd (dLst (Zaa (dC (.str [97, 108, 108])) (Zaa (dC (.str [108, 101, 116, 116, 101, 114, 115])) (Zaa (dC (.str [118, 111, 119, 101, 108, 115])) (Zaa (dC (.str [99, 111, 110, 115, 111, 110, 97, 110, 116, 115])) (Zaa (dC (.str [106, 111, 105, 110, 116, 115])) dNil)))))) (dLc (jStr (dOp uAdd (dC (.str [45])) (dVar 0))) (hName 3) dYes (dOp uAdd (dOp uAdd (dC (.str [91])) (dVar 3)) (dC (.str [93]))) [3]))) (hName 2) (dFor (jLst (dLst (Zaa (dC (.str [])) (Zaa (dC (.str [32, 97, 102, 116, 101, 114, 32, 49])) (Zaa (dC (.str [32, 97, 102, 116, 101, 114, 32, 50])) (Zaa (dC (.str [32, 97, 102, 116, 101, 114, 32, 51])) dNil)))))) (hName 4) (dFor (jLst (dLst (Zaa (dC (.str [])) (Zaa (dC (.str [32, 101, 97, 99, 104])) (Zaa (dC (.str [32, 98, 117, 116, 32, 108, 97, 115, 116])) (Zaa (dC (.str [32, 101, 97, 99, 104, 32, 98, 117, 116, 32, 108, 97, 115, 116])) dNil)))))) (hName 5) (Zeh (dBm tyL uApp (dVar 1) (Zaa (dOp uAdd (dOp uAdd (dOp uAdd (dC (.str [100, 114, 111, 112, 32])) (dVar 2)) (dVar 4)) (dVar 5)) dNil)))))) (dRet (dFrz (dVar 1))))
def Zhl : DS :=
 dRet (Zje .Lot 2 1 catD Zaz noX (dC (.cls .Lot)) (Zaa (dVar 0) (Zaa (dOp uIx (dVar 1) (dC (.int 0))) (Zaa (dOp uIx (dVar 1) (dC (.int 1))) (Zaa (dOp uIx (dVar 1) (dC (.int 2))) (Zaa (dOp uIx (dVar 1) (dC (.int 3))) (Zaa (dOp uIx (dVar 1) (dC (.int 4))) (Zaa (dOp uIx (dVar 1) (dC (.int 5))) (Zaa (dOp uIx (dVar 1) (dC (.int 6))) (Zaa (dOp uIx (dVar 1) (dC (.int 7))) (Zaa (dOp uIx (dVar 1) (dC (.int 8))) (Zaa (dOp uIx (dVar 1) (dC (.int 9))) (Zaa (dOp uIx (dVar 1) (dC (.int 10))) (Zaa (dOp uIx (dVar 1) (dC (.int 11))) (Zaa (dOp uIx (dVar 1) (dC (.int 12))) (Zaa (dOp uIx (dVar 1) (dC (.int 13))) (Zaa (dOp uIx (dVar 1) (dC (.int 14))) (Zaa (dOp uIx (dVar 1) (dC (.int 15))) (Zaa (dOp uIx (dVar 1) (dC (.int 16))) (Zaa (dOp uIx (dVar 1) (dC (.int 17))) (Zaa (dOp uIx (dVar 1) (dC (.int 18))) (Zaa (dOp uIx (dVar 1) (dC (.int 19))) (Zaa (dOp uIx (dVar 1) (dC (.int 20))) (Zaa (dOp uIx (dVar 1) (dC (.int 21))) (Zaa (dOp uIx (dVar 1) (dC (.int 22))) (Zaa (dOp uIx (dVar 1) (dC (.int 23))) (Zaa (dOp uIx (dVar 1) (dC (.int 24))) (Zaa (dOp uIx (dVar 1) (dC (.int 25))) (Zaa (dOp uIx (dVar 1) (dC (.int 26))) (Zaa (dOp uIx (dVar 1) (dC (.int 27))) (Zaa (dOp uIx (dVar 1) (dC (.int 28))) (Zaa (dOp uIx (dVar 1) (dC (.int 29))) (Zaa (dOp uIx (dVar 1) (dC (.int 30))) (Zaa (dOp uIx (dVar 1) (dC (.int 31))) (Zaa (dOp uIx (dVar 1) (dC (.int 32))) (Zaa (dOp uIx (dVar 1) (dC (.int 33))) (Zaa (dOp uIx (dVar 1) (dC (.int 34))) (Zaa (dOp uIx (dVar 1) (dC (.int 35))) (Zaa (dOp uIx (dVar 1) (dC (.int 36))) (Zaa (dOp uIx (dVar 1) (dC (.int 37))) (Zaa (dOp uIx (dVar 1) (dC (.int 38))) (Zaa (dOp uIx (dVar 1) (dC (.int 39))) (Zaa (dOp uIx (dVar 1) (dC (.int 40))) (Zaa (dOp uIx (dVar 1) (dC (.int 41))) (Zaa (dOp uIx (dVar 1) (dC (.int 42))) (Zaa (dOp uIx (dVar 1) (dC (.int 43))) (Zaa (dOp uIx (dVar 1) (dC (.int 44))) (Zaa (dOp uIx (dVar 1) (dC (.int 45))) (Zaa (dOp uIx (dVar 1) (dC (.int 46))) (Zaa (dOp uIx (dVar 1) (dC (.int 47))) (Zaa (dOp uIx (dVar 1) (dC (.int 48))) (Zaa (dOp uIx (dVar 1) (dC (.int 49))) (Zaa (dOp uIx (dVar 1) (dC (.int 50))) (Zaa (dOp uIx (dVar 1) (dC (.int 51))) (Zaa (dOp uIx (dVar 1) (dC (.int 52))) (Zaa (dOp uIx (dVar 1) (dC (.int 53))) (Zaa (dOp uIx (dVar 1) (dC (.int 54))) (Zaa (dOp uIx (dVar 1) (dC (.int 55))) (Zaa (dOp uIx (dVar 1) (dC (.int 56))) (Zaa (dOp uIx (dVar 1) (dC (.int 57))) (Zaa (dOp uIx (dVar 1) (dC (.int 58))) (Zaa (dOp uIx (dVar 1) (dC (.int 59))) (Zaa (dOp uIx (dVar 1) (dC (.int 60))) (Zaa (dOp uIx (dVar 1) (dC (.int 61))) (Zaa (dOp uIx (dVar 1) (dC (.int 62))) (Zaa (dOp uIx (dVar 1) (dC (.int 63))) (Zaa (dOp uIx (dVar 1) (dC (.int 64))) (Zaa (dOp uIx (dVar 1) (dC (.int 65))) (Zaa (dOp uIx (dVar 1) (dC (.int 66))) (Zaa (dOp uIx (dVar 1) (dC (.int 67))) (Zaa (dOp uIx (dVar 1) (dC (.int 68))) (Zaa (dOp uIx (dVar 1) (dC (.int 69))) (Zaa (dOp uIx (dVar 1) (dC (.int 70))) (Zaa (dOp uIx (dVar 1) (dC (.int 71))) (Zaa (dOp uIx (dVar 1) (dC (.int 72))) (Zaa (dOp uIx (dVar 1) (dC (.int 73))) (Zaa (dOp uIx (dVar 1) (dC (.int 74))) (Zaa (dOp uIx (dVar 1) (dC (.int 75))) (Zaa (dOp uIx (dVar 1) (dC (.int 76))) (Zaa (dOp uIx (dVar 1) (dC (.int 77))) (Zaa (dOp uIx (dVar 1) (dC (.int 78))) (Zaa (dOp uIx (dVar 1) (dC (.int 79))) (Zaa (dOp uIx (dVar 1) (dC (.int 80))) (Zaa (dOp uIx (dVar 1) (dC (.int 81))) (Zaa (dOp uIx (dVar 1) (dC (.int 82))) (Zaa (dOp uIx (dVar 1) (dC (.int 83))) (Zaa (dOp uIx (dVar 1) (dC (.int 84))) (Zaa (dOp uIx (dVar 1) (dC (.int 85))) (Zaa (dOp uIx (dVar 1) (dC (.int 86))) (Zaa (dOp uIx (dVar 1) (dC (.int 87))) (Zaa (dOp uIx (dVar 1) (dC (.int 88))) (Zaa (dOp uIx (dVar 1) (dC (.int 89))) (Zaa (dOp uIx (dVar 1) (dC (.int 90))) (Zaa (dOp uIx (dVar 1) (dC (.int 91))) (Zaa (dOp uIx (dVar 1) (dC (.int 92))) (Zaa (dOp uIx (dVar 1) (dC (.int 93))) (Zaa (dOp uIx (dVar 1) (dC (.int 94))) (Zaa (dOp uIx (dVar 1) (dC (.int 95))) (Zaa (dOp uIx (dVar 1) (dC (.int 96))) (Zaa (dOp uIx (dVar 1) (dC (.int 97))) (Zaa (dOp uIx (dVar 1) (dC (.int 98))) (Zaa (dOp uIx (dVar 1) (dC (.int 99))) (Zaa (dOp uIx (dVar 1) (dC (.int 100))) (Zaa (dOp uIx (dVar 1) (dC (.int 101))) (Zaa (dOp uIx (dVar 1) (dC (.int 102))) (Zaa (dOp uIx (dVar 1) (dC (.int 103))) (Zaa (dOp uIx (dVar 1) (dC (.int 104))) (Zaa (dOp uIx (dVar 1) (dC (.int 105))) (Zaa (dOp uIx (dVar 1) (dC (.int 106))) (Zaa (dOp uIx (dVar 1) (dC (.int 107))) (Zaa (dOp uIx (dVar 1) (dC (.int 108))) (Zaa (dOp uIx (dVar 1) (dC (.int 109))) (Zaa (dOp uIx (dVar 1) (dC (.int 110))) (Zaa (dOp uIx (dVar 1) (dC (.int 111))) (Zaa (dOp uIx (dVar 1) (dC (.int 112))) (Zaa (dOp uIx (dVar 1) (dC (.int 113))) (Zaa (dOp uIx (dVar 1) (dC (.int 114))) (Zaa (dOp uIx (dVar 1) (dC (.int 115))) (Zaa (dOp uIx (dVar 1) (dC (.int 116))) (Zaa (dOp uIx (dVar 1) (dC (.int 117))) (Zaa (dOp uIx (dVar 1) (dC (.int 118))) (Zaa (dOp uIx (dVar 1) (dC (.int 119))) (Zaa (dOp uIx (dVar 1) (dC (.int 120))) (Zaa (dOp uIx (dVar 1) (dC (.int 121))) (Zaa (dOp uIx (dVar 1) (dC (.int 122))) (Zaa (dOp uIx (dVar 1) (dC (.int 123))) (Zaa (dOp uIx (dVar 1) (dC (.int 124))) (Zaa (dOp uIx (dVar 1) (dC (.int 125))) (Zaa (dOp uIx (dVar 1) (dC (.int 126))) (Zaa (dOp uIx (dVar 1) (dC (.int 127))) (Zaa (dOp uIx (dVar 1) (dC (.int 128))) (Zaa (dOp uIx (dVar 1) (dC (.int 129))) (Zaa (dOp uIx (dVar 1) (dC (.int 130))) (Zaa (dOp uIx (dVar 1) (dC (.int 131))) (Zaa (dOp uIx (dVar 1) (dC (.int 132))) (Zaa (dOp uIx (dVar 1) (dC (.int 133))) (Zaa (dOp uIx (dVar 1) (dC (.int 134))) (Zaa (dOp uIx (dVar 1) (dC (.int 135))) (Zaa (dOp uIx (dVar 1) (dC (.int 136))) (Zaa (dOp uIx (dVar 1) (dC (.int 137))) (Zaa (dOp uIx (dVar 1) (dC (.int 138))) (Zaa (dOp uIx (dVar 1) (dC (.int 139))) (Zaa (dOp uIx (dVar 1) (dC (.int 140))) (Zaa (dOp uIx (dVar 1) (dC (.int 141))) (Zaa (dOp uIx (dVar 1) (dC (.int 142))) (Zaa (dOp uIx (dVar 1) (dC (.int 143))) (Zaa (dOp uIx (dVar 1) (dC (.int 144))) (Zaa (dOp uIx (dVar 1) (dC (.int 145))) (Zaa (dOp uIx (dVar 1) (dC (.int 146))) (Zaa (dOp uIx (dVar 1) (dC (.int 147))) (Zaa (dOp uIx (dVar 1) (dC (.int 148))) (Zaa (dOp uIx (dVar 1) (dC (.int 149))) (Zaa (dOp uIx (dVar 1) (dC (.int 150))) (Zaa (dOp uIx (dVar 1) (dC (.int 151))) (Zaa (dOp uIx (dVar 1) (dC (.int 152))) (Zaa (dOp uIx (dVar 1) (dC (.int 153))) (Zaa (dOp uIx (dVar 1) (dC (.int 154))) (Zaa (dOp uIx (dVar 1) (dC (.int 155))) (Zaa (dOp uIx (dVar 1) (dC (.int 156))) (Zaa (dOp uIx (dVar 1) (dC (.int 157))) (Zaa (dOp uIx (dVar 1) (dC (.int 158))) (Zaa (dOp uIx (dVar 1) (dC (.int 159))) (Zaa (dOp uIx (dVar 1) (dC (.int 160))) (Zaa (dOp uIx (dVar 1) (dC (.int 161))) (Zaa (dOp uIx (dVar 1) (dC (.int 162))) (Zaa (dOp uIx (dVar 1) (dC (.int 163))) (Zaa (dOp uIx (dVar 1) (dC (.int 164))) (Zaa (dOp uIx (dVar 1) (dC (.int 165))) (Zaa (dOp uIx (dVar 1) (dC (.int 166))) (Zaa (dOp uIx (dVar 1) (dC (.int 167))) (Zaa (dOp uIx (dVar 1) (dC (.int 168))) (Zaa (dOp uIx (dVar 1) (dC (.int 169))) (Zaa (dOp uIx (dVar 1) (dC (.int 170))) (Zaa (dOp uIx (dVar 1) (dC (.int 171))) (Zaa (dOp uIx (dVar 1) (dC (.int 172))) (Zaa (dOp uIx (dVar 1) (dC (.int 173))) (Zaa (dOp uIx (dVar 1) (dC (.int 174))) (Zaa (dOp uIx (dVar 1) (dC (.int 175))) (Zaa (dOp uIx (dVar 1) (dC (.int 176))) (Zaa (dOp uIx (dVar 1) (dC (.int 177))) (Zaa (dOp uIx (dVar 1) (dC (.int 178))) (Zaa (dOp uIx (dVar 1) (dC (.int 179))) (Zaa (dOp uIx (dVar 1) (dC (.int 180))) (Zaa (dOp uIx (dVar 1) (dC (.int 181))) (Zaa (dOp uIx (dVar 1) (dC (.int 182))) (Zaa (dOp uIx (dVar 1) (dC (.int 183))) (Zaa (dOp uIx (dVar 1) (dC (.int 184))) (Zaa (dOp uIx (dVar 1) (dC (.int 185))) (Zaa (dOp uIx (dVar 1) (dC (.int 186))) (Zaa (dOp uIx (dVar 1) (dC (.int 187))) (Zaa (dOp uIx (dVar 1) (dC (.int 188))) (Zaa (dOp uIx (dVar 1) (dC (.int 189))) (Zaa (dOp uIx (dVar 1) (dC (.int 190))) (Zaa (dOp uIx (dVar 1) (dC (.int 191))) (Zaa (dOp uIx (dVar 1) (dC (.int 192))) (Zaa (dOp uIx (dVar 1) (dC (.int 193))) (Zaa (dOp uIx (dVar 1) (dC (.int 194))) (Zaa (dOp uIx (dVar 1) (dC (.int 195))) (Zaa (dOp uIx (dVar 1) (dC (.int 196))) (Zaa (dOp uIx (dVar 1) (dC (.int 197))) (Zaa (dOp uIx (dVar 1) (dC (.int 198))) dNil)))))))))))))))))))))))))))))))))))))))))))))))))))))))))))))))))))))))))))))))))))))))))))))))))))))))))))))))))))))))))))))))))))))))))))))))))))))))))))))))))))))))))))))))))))))))))))))))))))))))) (Zaa (dC (.int 1)) dNil))
def Zhk : DS :=
 dSeq (dTry [(.TooMany, true)] 2 (fun W => Zeh (Zfs .Lot 2 1 catD Zaz W (dC (.cls .Lot)) (Zaa (dVar 0) (Zaa (dOp uIx (dVar 1) (dC (.int 0))) (Zaa (dOp uIx (dVar 1) (dC (.int 1))) (Zaa (dOp uIx (dVar 1) (dC (.int 2))) (Zaa (dOp uIx (dVar 1) (dC (.int 3))) (Zaa (dOp uIx (dVar 1) (dC (.int 4))) (Zaa (dOp uIx (dVar 1) (dC (.int 5))) (Zaa (dOp uIx (dVar 1) (dC (.int 6))) (Zaa (dOp uIx (dVar 1) (dC (.int 7))) (Zaa (dOp uIx (dVar 1) (dC (.int 8))) (Zaa (dOp uIx (dVar 1) (dC (.int 9))) (Zaa (dOp uIx (dVar 1) (dC (.int 10))) (Zaa (dOp uIx (dVar 1) (dC (.int 11))) (Zaa (dOp uIx (dVar 1) (dC (.int 12))) (Zaa (dOp uIx (dVar 1) (dC (.int 13))) (Zaa (dOp uIx (dVar 1) (dC (.int 14))) (Zaa (dOp uIx (dVar 1) (dC (.int 15))) (Zaa (dOp uIx (dVar 1) (dC (.int 16))) (Zaa (dOp uIx (dVar 1) (dC (.int 17))) (Zaa (dOp uIx (dVar 1) (dC (.int 18))) (Zaa (dOp uIx (dVar 1) (dC (.int 19))) (Zaa (dOp uIx (dVar 1) (dC (.int 20))) (Zaa (dOp uIx (dVar 1) (dC (.int 21))) (Zaa (dOp uIx (dVar 1) (dC (.int 22))) (Zaa (dOp uIx (dVar 1) (dC (.int 23))) (Zaa (dOp uIx (dVar 1) (dC (.int 24))) (Zaa (dOp uIx (dVar 1) (dC (.int 25))) (Zaa (dOp uIx (dVar 1) (dC (.int 26))) (Zaa (dOp uIx (dVar 1) (dC (.int 27))) (Zaa (dOp uIx (dVar 1) (dC (.int 28))) (Zaa (dOp uIx (dVar 1) (dC (.int 29))) (Zaa (dOp uIx (dVar 1) (dC (.int 30))) (Zaa (dOp uIx (dVar 1) (dC (.int 31))) (Zaa (dOp uIx (dVar 1) (dC (.int 32))) (Zaa (dOp uIx (dVar 1) (dC (.int 33))) (Zaa (dOp uIx (dVar 1) (dC (.int 34))) (Zaa (dOp uIx (dVar 1) (dC (.int 35))) (Zaa (dOp uIx (dVar 1) (dC (.int 36))) (Zaa (dOp uIx (dVar 1) (dC (.int 37))) (Zaa (dOp uIx (dVar 1) (dC (.int 38))) (Zaa (dOp uIx (dVar 1) (dC (.int 39))) (Zaa (dOp uIx (dVar 1) (dC (.int 40))) (Zaa (dOp uIx (dVar 1) (dC (.int 41))) (Zaa (dOp uIx (dVar 1) (dC (.int 42))) (Zaa (dOp uIx (dVar 1) (dC (.int 43))) (Zaa (dOp uIx (dVar 1) (dC (.int 44))) (Zaa (dOp uIx (dVar 1) (dC (.int 45))) (Zaa (dOp uIx (dVar 1) (dC (.int 46))) (Zaa (dOp uIx (dVar 1) (dC (.int 47))) (Zaa (dOp uIx (dVar 1) (dC (.int 48))) (Zaa (dOp uIx (dVar 1) (dC (.int 49))) (Zaa (dOp uIx (dVar 1) (dC (.int 50))) (Zaa (dOp uIx (dVar 1) (dC (.int 51))) (Zaa (dOp uIx (dVar 1) (dC (.int 52))) (Zaa (dOp uIx (dVar 1) (dC (.int 53))) (Zaa (dOp uIx (dVar 1) (dC (.int 54))) (Zaa (dOp uIx (dVar 1) (dC (.int 55))) (Zaa (dOp uIx (dVar 1) (dC (.int 56))) (Zaa (dOp uIx (dVar 1) (dC (.int 57))) (Zaa (dOp uIx (dVar 1) (dC (.int 58))) (Zaa (dOp uIx (dVar 1) (dC (.int 59))) (Zaa (dOp uIx (dVar 1) (dC (.int 60))) (Zaa (dOp uIx (dVar 1) (dC (.int 61))) (Zaa (dOp uIx (dVar 1) (dC (.int 62))) (Zaa (dOp uIx (dVar 1) (dC (.int 63))) (Zaa (dOp uIx (dVar 1) (dC (.int 64))) (Zaa (dOp uIx (dVar 1) (dC (.int 65))) (Zaa (dOp uIx (dVar 1) (dC (.int 66))) (Zaa (dOp uIx (dVar 1) (dC (.int 67))) (Zaa (dOp uIx (dVar 1) (dC (.int 68))) (Zaa (dOp uIx (dVar 1) (dC (.int 69))) (Zaa (dOp uIx (dVar 1) (dC (.int 70))) (Zaa (dOp uIx (dVar 1) (dC (.int 71))) (Zaa (dOp uIx (dVar 1) (dC (.int 72))) (Zaa (dOp uIx (dVar 1) (dC (.int 73))) (Zaa (dOp uIx (dVar 1) (dC (.int 74))) (Zaa (dOp uIx (dVar 1) (dC (.int 75))) (Zaa (dOp uIx (dVar 1) (dC (.int 76))) (Zaa (dOp uIx (dVar 1) (dC (.int 77))) (Zaa (dOp uIx (dVar 1) (dC (.int 78))) (Zaa (dOp uIx (dVar 1) (dC (.int 79))) (Zaa (dOp uIx (dVar 1) (dC (.int 80))) (Zaa (dOp uIx (dVar 1) (dC (.int 81))) (Zaa (dOp uIx (dVar 1) (dC (.int 82))) (Zaa (dOp uIx (dVar 1) (dC (.int 83))) (Zaa (dOp uIx (dVar 1) (dC (.int 84))) (Zaa (dOp uIx (dVar 1) (dC (.int 85))) (Zaa (dOp uIx (dVar 1) (dC (.int 86))) (Zaa (dOp uIx (dVar 1) (dC (.int 87))) (Zaa (dOp uIx (dVar 1) (dC (.int 88))) (Zaa (dOp uIx (dVar 1) (dC (.int 89))) (Zaa (dOp uIx (dVar 1) (dC (.int 90))) (Zaa (dOp uIx (dVar 1) (dC (.int 91))) (Zaa (dOp uIx (dVar 1) (dC (.int 92))) (Zaa (dOp uIx (dVar 1) (dC (.int 93))) (Zaa (dOp uIx (dVar 1) (dC (.int 94))) (Zaa (dOp uIx (dVar 1) (dC (.int 95))) (Zaa (dOp uIx (dVar 1) (dC (.int 96))) (Zaa (dOp uIx (dVar 1) (dC (.int 97))) (Zaa (dOp uIx (dVar 1) (dC (.int 98))) (Zaa (dOp uIx (dVar 1) (dC (.int 99))) (Zaa (dOp uIx (dVar 1) (dC (.int 100))) (Zaa (dOp uIx (dVar 1) (dC (.int 101))) (Zaa (dOp uIx (dVar 1) (dC (.int 102))) (Zaa (dOp uIx (dVar 1) (dC (.int 103))) (Zaa (dOp uIx (dVar 1) (dC (.int 104))) (Zaa (dOp uIx (dVar 1) (dC (.int 105))) (Zaa (dOp uIx (dVar 1) (dC (.int 106))) (Zaa (dOp uIx (dVar 1) (dC (.int 107))) (Zaa (dOp uIx (dVar 1) (dC (.int 108))) (Zaa (dOp uIx (dVar 1) (dC (.int 109))) (Zaa (dOp uIx (dVar 1) (dC (.int 110))) (Zaa (dOp uIx (dVar 1) (dC (.int 111))) (Zaa (dOp uIx (dVar 1) (dC (.int 112))) (Zaa (dOp uIx (dVar 1) (dC (.int 113))) (Zaa (dOp uIx (dVar 1) (dC (.int 114))) (Zaa (dOp uIx (dVar 1) (dC (.int 115))) (Zaa (dOp uIx (dVar 1) (dC (.int 116))) (Zaa (dOp uIx (dVar 1) (dC (.int 117))) (Zaa (dOp uIx (dVar 1) (dC (.int 118))) (Zaa (dOp uIx (dVar 1) (dC (.int 119))) (Zaa (dOp uIx (dVar 1) (dC (.int 120))) (Zaa (dOp uIx (dVar 1) (dC (.int 121))) (Zaa (dOp uIx (dVar 1) (dC (.int 122))) (Zaa (dOp uIx (dVar 1) (dC (.int 123))) (Zaa (dOp uIx (dVar 1) (dC (.int 124))) (Zaa (dOp uIx (dVar 1) (dC (.int 125))) (Zaa (dOp uIx (dVar 1) (dC (.int 126))) (Zaa (dOp uIx (dVar 1) (dC (.int 127))) (Zaa (dOp uIx (dVar 1) (dC (.int 128))) (Zaa (dOp uIx (dVar 1) (dC (.int 129))) (Zaa (dOp uIx (dVar 1) (dC (.int 130))) (Zaa (dOp uIx (dVar 1) (dC (.int 131))) (Zaa (dOp uIx (dVar 1) (dC (.int 132))) (Zaa (dOp uIx (dVar 1) (dC (.int 133))) (Zaa (dOp uIx (dVar 1) (dC (.int 134))) (Zaa (dOp uIx (dVar 1) (dC (.int 135))) (Zaa (dOp uIx (dVar 1) (dC (.int 136))) (Zaa (dOp uIx (dVar 1) (dC (.int 137))) (Zaa (dOp uIx (dVar 1) (dC (.int 138))) (Zaa (dOp uIx (dVar 1) (dC (.int 139))) (Zaa (dOp uIx (dVar 1) (dC (.int 140))) (Zaa (dOp uIx (dVar 1) (dC (.int 141))) (Zaa (dOp uIx (dVar 1) (dC (.int 142))) (Zaa (dOp uIx (dVar 1) (dC (.int 143))) (Zaa (dOp uIx (dVar 1) (dC (.int 144))) (Zaa (dOp uIx (dVar 1) (dC (.int 145))) (Zaa (dOp uIx (dVar 1) (dC (.int 146))) (Zaa (dOp uIx (dVar 1) (dC (.int 147))) (Zaa (dOp uIx (dVar 1) (dC (.int 148))) (Zaa (dOp uIx (dVar 1) (dC (.int 149))) (Zaa (dOp uIx (dVar 1) (dC (.int 150))) (Zaa (dOp uIx (dVar 1) (dC (.int 151))) (Zaa (dOp uIx (dVar 1) (dC (.int 152))) (Zaa (dOp uIx (dVar 1) (dC (.int 153))) (Zaa (dOp uIx (dVar 1) (dC (.int 154))) (Zaa (dOp uIx (dVar 1) (dC (.int 155))) (Zaa (dOp uIx (dVar 1) (dC (.int 156))) (Zaa (dOp uIx (dVar 1) (dC (.int 157))) (Zaa (dOp uIx (dVar 1) (dC (.int 158))) (Zaa (dOp uIx (dVar 1) (dC (.int 159))) (Zaa (dOp uIx (dVar 1) (dC (.int 160))) (Zaa (dOp uIx (dVar 1) (dC (.int 161))) (Zaa (dOp uIx (dVar 1) (dC (.int 162))) (Zaa (dOp uIx (dVar 1) (dC (.int 163))) (Zaa (dOp uIx (dVar 1) (dC (.int 164))) (Zaa (dOp uIx (dVar 1) (dC (.int 165))) (Zaa (dOp uIx (dVar 1) (dC (.int 166))) (Zaa (dOp uIx (dVar 1) (dC (.int 167))) (Zaa (dOp uIx (dVar 1) (dC (.int 168))) (Zaa (dOp uIx (dVar 1) (dC (.int 169))) (Zaa (dOp uIx (dVar 1) (dC (.int 170))) (Zaa (dOp uIx (dVar 1) (dC (.int 171))) (Zaa (dOp uIx (dVar 1) (dC (.int 172))) (Zaa (dOp uIx (dVar 1) (dC (.int 173))) (Zaa (dOp uIx (dVar 1) (dC (.int 174))) (Zaa (dOp uIx (dVar 1) (dC (.int 175))) (Zaa (dOp uIx (dVar 1) (dC (.int 176))) (Zaa (dOp uIx (dVar 1) (dC (.int 177))) (Zaa (dOp uIx (dVar 1) (dC (.int 178))) (Zaa (dOp uIx (dVar 1) (dC (.int 179))) (Zaa (dOp uIx (dVar 1) (dC (.int 180))) (Zaa (dOp uIx (dVar 1) (dC (.int 181))) (Zaa (dOp uIx (dVar 1) (dC (.int 182))) (Zaa (dOp uIx (dVar 1) (dC (.int 183))) (Zaa (dOp uIx (dVar 1) (dC (.int 184))) (Zaa (dOp uIx (dVar 1) (dC (.int 185))) (Zaa (dOp uIx (dVar 1) (dC (.int 186))) (Zaa (dOp uIx (dVar 1) (dC (.int 187))) (Zaa (dOp uIx (dVar 1) (dC (.int 188))) (Zaa (dOp uIx (dVar 1) (dC (.int 189))) (Zaa (dOp uIx (dVar 1) (dC (.int 190))) (Zaa (dOp uIx (dVar 1) (dC (.int 191))) (Zaa (dOp uIx (dVar 1) (dC (.int 192))) (Zaa (dOp uIx (dVar 1) (dC (.int 193))) (Zaa (dOp uIx (dVar 1) (dC (.int 194))) (Zaa (dOp uIx (dVar 1) (dC (.int 195))) (Zaa (dOp uIx (dVar 1) (dC (.int 196))) (Zaa (dOp uIx (dVar 1) (dC (.int 197))) (Zaa (dOp uIx (dVar 1) (dC (.int 198))) (Zaa (dOp uIx (dVar 1) (dC (.int 199))) dNil))))))))))))))))))))))))))))))))))))))))))))))))))))))))))))))))))))))))))))))))))))))))))))))))))))))))))))))))))))))))))))))))))))))))))))))))))))))))))))))))))))))))))))))))))))))))))))))))))))))))) (Zaa (dC (.int 1)) dNil))) (fun a e => dRet (dXf a e .TooMany .number (dVar 2))) (fun _ _ _ => False)) (dRet (dC .non))
def Zud : DS :=
 dSeq (dAsg (Zd6 Zi2 noX (Zaa (dVar 0) dNil)) (hName 1)) (dSeq (dAsg (Zd6 Zdo noX (Zaa (dVar 1) (Zaa (dC (.int 19)) dNil))) (hName 2)) (dSeq (dAsg (dSl uSl (dC (.str [97, 98, 99, 100, 101, 102, 103, 104, 105, 106, 107, 108, 109, 110, 111, 112, 113, 114, 115, 116, 117, 118, 119, 120, 121, 122])) (Zcw (dVar 2)) (Zcw (dOp uAdd (dVar 2) (dC (.int 8))))) (hName 3)) (dSeq (dAsg (Zky .Alphabet 1 1 Zaw noX (Zaa (dVar 3) dNil) (Zaa (dSl uSl (dVar 3) Za2 (Zcw (Zd6 Zdo noX (Zaa (dVar 1) (Zaa (dC (.int 9)) dNil))))) dNil)) (hName 4)) (dSeq (dAsg (Zd6 Zfl noX (Zaa (dVar 3) dNil)) (hName 5)) (dSeq (dAsg (Zd6 Zdo noX (Zaa (dVar 1) (Zaa (dCB uLen (Zaa (dVar 5) dNil)) dNil))) (hName 6)) (dSeq (dAsg (dOp uAdd (dSl uSl (dVar 5) (Zcw (dVar 6)) Za2) (dSl uSl (dVar 5) Za2 (Zcw (dVar 6)))) (hName 5)) (dSeq (dIfS (dOr (Zah (dOp uNe (dFld (dVar 4) .letters) (dVar 3))) (Zah (dOp uNe (dOp uAdd (dFld (dVar 4) .vowels) (dFld (dVar 4) .consonants)) (dVar 3)))) (dRet (dC (.bl false))) Zam) (dSeq (dAsg (Zd6 Zhp noX (Zaa (dVar 4) (Zaa (dVar 5) dNil))) (hName 7)) (dSeq (dIfS (dOr (Zah (dOp uNe (dCB (Z0n .Lot Zfm) (Zaa (dVar 7) dNil)) (dC (.int 200)))) (dOr (Zah (dOp uNe (dFrz (Zd5 (gm1 .Lot Zbb) [] noX (dVar 7) dNil)) (dOp uAdd (dLst (Zaa (dC (.str [107, 101, 101, 112])) dNil)) (dSl uSl (dVar 5) Za2 (Zcw (dC (.int 199))))))) (Zah (dOp uNe (Zd6 Zfk noX (Zaa (dVar 4) (Zaa (dVar 5) dNil))) (dC (.int 201)))))) (dRet (dC (.bl false))) Zam) (dSeq (dAsg (Zjc .Lot Zce [] noX (Zaa (dLc (jLst (dSl uSl (dVar 5) Za2 (Zcw (dC (.int 201))))) (hName 9) dYes (Zor .Rule Zcr noX (dC (.cls .Rule)) (Zaa (dVar 4) (Zaa (dVar 9) dNil))) [9]) dNil)) (hName 8)) (dRet (Zos (dOp uEq (dFrz (Zd5 (gm1 .Lot Zbb) [] noX (dVar 8) dNil)) (dSl uSl (dVar 5) Za2 (Zcw (dC (.int 201))))) (Zos (dCB (uIsi Zk3 (.ty "list")) (Zaa (dFld (dVar 8) .rules) (Zaa (dC (.ty "list")) dNil))) (dOp uEq (dCB uLen (Zaa (dFld (dVar 8) .rules) dNil)) (dC (.int 201))))))))))))))))
def cs_ : List Cn := [.Alphabet, .Drop, .LastDrop, .Write, .Once, .Add, .Rule, .Lot]
abbrev Zeo (K : PySem.W.Frag) : Sp := spX1 (ga K "BadAlphabet") "part"
def Ze5 (P : Program) (w : World) (K : PySem.W.Frag) : TS :=
 tSeq (tDrop (tVeI K (tCons (tVar 0) (tCons (tC (sv [97, 110, 32, 97, 114, 103, 117, 109, 101, 110, 116, 32, 111, 102, 32, 97, 110, 32, 97, 108, 112, 104, 97, 98, 101, 116, 32, 105, 115, 32, 119, 114, 111, 110, 103])) tNil)))) (tOst K "part" (tVar 0) (tVar 1))
abbrev Zbh (K : PySem.W.Frag) : Sp := spX1 (ga K "BadStage") "what"
def Zhy (P : Program) (w : World) (K : PySem.W.Frag) : TS :=
 tSeq (tDrop (tVeI K (tCons (tVar 0) (tCons (tC (sv [97, 32, 112, 97, 114, 116, 32, 111, 102, 32, 97, 32, 115, 116, 97, 103, 101, 32, 105, 115, 32, 119, 114, 111, 110, 103])) tNil)))) (tOst K "what" (tVar 0) (tVar 1))
abbrev Zdw (K : PySem.W.Frag) : Sp := spX2 (ga K "BadRule") "stage" "what"
def Zjo (P : Program) (w : World) (K : PySem.W.Frag) : TS :=
 tSeq (tDrop (tVeI K (tCons (tVar 0) (tCons (tC (sv [97, 32, 112, 105, 101, 99, 101, 32, 111, 102, 32, 97, 32, 119, 114, 105, 116, 116, 101, 110, 32, 114, 117, 108, 101, 32, 105, 115, 32, 119, 114, 111, 110, 103])) tNil)))) (tSeq (tOst K "stage" (tVar 0) (tVar 1)) (tOst K "what" (tVar 0) (tVar 2)))
abbrev Zh4 (K : PySem.W.Frag) : Sp := spX1 (ga K "TooMany") "number"
def Zjn (P : Program) (w : World) (K : PySem.W.Frag) : TS :=
 tSeq (tDrop (tVeI K (tCons (tVar 0) (tCons (tC (sv [116, 104, 101, 114, 101, 32, 119, 111, 117, 108, 100, 32, 98, 101, 32, 116, 111, 111, 32, 109, 97, 110, 121, 32, 114, 117, 108, 101, 115, 32, 111, 114, 32, 99, 108, 97, 115, 115, 101, 115])) tNil)))) (tOst K "number" (tVar 0) (tVar 1))
abbrev Zei (K : PySem.W.Frag) : Sp := spD K cs_ Zar
abbrev Zb8 (K : PySem.W.Frag) : Sp := spD K cs_ Zaq
abbrev Zcy (K : PySem.W.Frag) : Sp := spD K cs_ Zbc
def Zdg (P : Program) (w : World) (K : PySem.W.Frag) (E : XK) : TS :=
 tSeq (tDrop (tSup K (ga K "Drop") "__init__" (fAd K ("Stage", some "__init__")) (fun vs => Zb8 K (vs ++ [])) E0 (tCons (tVar 1) tNil))) (tSeq (sFld K (tVar 0) (tVar 2) "name") (tSeq (sFld K (tVar 0) (Zdt (okM K cs_ Zau) "members" [] E (tVar 1) (tCons (tVar 2) tNil)) "chosen") (tSeq (tIfS (tNot (tTest (tChain zLe zLe (tC (.int 0)) (tVar 3) (tC (.int 3))))) (Zc2 E (ga K "BadStage") (Zbh K) (tCons (tC (sv [97, 102, 116, 101, 114])) tNil)) tNext) (tSeq (sFld K (tVar 0) (tVar 3) "after") (sFld K (tVar 0) (tVar 4) "each")))))
abbrev Znf (K : PySem.W.Frag) : Sp := spD K cs_ Za0
abbrev Zb5 (K : PySem.W.Frag) : Sp := spD K cs_ Zav
def Zbr (P : Program) (w : World) (K : PySem.W.Frag) (E : XK) : TS :=
 tDrop (Z0s K (ga K "LastDrop") "__init__" (fAd K ("Drop", some "__init__")) 2 2 (Zcy K) E (tCons (tVar 1) (tCons (tVar 2) tNil)) (tCons (tVar 3) (tCons (tVar 4) tNil)))
abbrev Zb4 (K : PySem.W.Frag) : Sp := spD K cs_ Zal
def Zbq (P : Program) (w : World) (K : PySem.W.Frag) : TS :=
 tRet (tOp zAdd (tSup K (ga K "LastDrop") "text" (fAd K ("Drop", some "text")) (fun vs => Znf K (vs ++ [])) E0 tNil) (tC (sv [32, 98, 117, 116, 32, 108, 97, 115, 116])))
abbrev Zdh (K : PySem.W.Frag) : Sp := spD K cs_ Zb3
def Zcx (P : Program) (w : World) (K : PySem.W.Frag) (E : XK) : TS :=
 tSeq (tDrop (tSup K (ga K "Write") "__init__" (fAd K ("Stage", some "__init__")) (fun vs => Zb8 K (vs ++ [])) E0 (tCons (tVar 1) tNil))) (tSeq (tIfS (tOr (tTest (tOp (zNe K) (tCB (Zm4 P w K) (tCons (tVar 2) tNil)) (tC (.int 1)))) (tNot (tTru K (Zdt (okM K cs_ Zbe) "is_word" [] E0 (tVar 1) (tCons (tVar 2) tNil))))) (Zc2 E (ga K "BadStage") (Zbh K) (tCons (tC (sv [115, 105, 103, 110])) tNil)) tNext) (tSeq (sFld K (tVar 0) (tVar 2) "sign") (tSeq (sFld K (tVar 0) (tVar 3) "name") (sFld K (tVar 0) (Zdt (okM K cs_ Zau) "members" [] E (tVar 1) (tCons (tVar 3) tNil)) "chosen"))))
abbrev Zdu (K : PySem.W.Frag) : Sp := spD K cs_ Zcs
def Zdf (P : Program) (w : World) (K : PySem.W.Frag) (E : XK) : TS :=
 tSeq (tDrop (tSup K (ga K "Once") "__init__" (fAd K ("Stage", some "__init__")) (fun vs => Zb8 K (vs ++ [])) E0 (tCons (tVar 1) tNil))) (tSeq (sFld K (tVar 0) (tVar 2) "name") (sFld K (tVar 0) (Zdt (okM K cs_ Zau) "members" [] E (tVar 1) (tCons (tVar 2) tNil)) "chosen"))
abbrev Zep (K : PySem.W.Frag) : Sp := spD K cs_ Zdc
def Zd9 (P : Program) (w : World) (K : PySem.W.Frag) (E : XK) : TS :=
 tSeq (tDrop (tSup K (ga K "Add") "__init__" (fAd K ("Stage", some "__init__")) (fun vs => Zb8 K (vs ++ [])) E0 (tCons (tVar 1) tNil))) (tSeq (tIfS (tOr (tTest (tOp (zNe K) (tCB (Zm4 P w K) (tCons (tVar 2) tNil)) (tC (.int 1)))) (tNot (tTru K (Zdt (okM K cs_ Zbe) "is_word" [] E0 (tVar 1) (tCons (tVar 2) tNil))))) (Zc2 E (ga K "BadStage") (Zbh K) (tCons (tC (sv [115, 105, 103, 110])) tNil)) tNext) (sFld K (tVar 0) (tVar 2) "sign"))
abbrev Zgq (K : PySem.W.Frag) : Sp := spD K cs_ Zba
def Zde (P : Program) (w : World) (K : PySem.W.Frag) (E : XK) : TS :=
 tSeq (tIfS (tTest (tOp zGt (tCB (Zm4 P w K) (tCons (tVar 2) tNil)) (tCVal K (tC (.ref (ga K "Rule"))) "MOST"))) (Zc2 E (ga K "BadRule") (Zdw K) (tCons (tOp zAdd (tCVal K (tC (.ref (ga K "Rule"))) "MOST") (tC (.int 1))) (tCons (tC (sv [99, 111, 117, 110, 116])) tNil))) tNext) (tSeq (tFor (iTup K (tVar 2)) (gName 3) (tIfS (tTest (tOp (rNeI (ga K "Alphabet") (Zei K) E0) (tFld K (tVar 3) "alphabet") (tVar 1))) (Zs5 E (ga K "Mixed")) tNext)) (tSeq (sFld K (tVar 0) (tVar 1) "alphabet") (sFld K (tVar 0) (tThen (tVar 2) (kTup K)) "stages")))
abbrev Zdv (K : PySem.W.Frag) : Sp := spD K cs_ Zaz
abbrev Zh3 (K : PySem.W.Frag) : Sp := spD K cs_ Zfk
def Zhh (P : Program) (w : World) (K : PySem.W.Frag) : TS :=
 tSeq (fun D σ H => (fun (W : WX) => tDrop (Ze7 (ga K "Lot") 2 1 catV (Zdv K) (WE W) (tC (.ref (ga K "Lot"))) (tCons (tVar 0) (tCons (tOp (zIx K) (tVar 1) (tC (.int 0))) (tCons (tOp (zIx K) (tVar 1) (tC (.int 1))) (tCons (tOp (zIx K) (tVar 1) (tC (.int 2))) (tCons (tOp (zIx K) (tVar 1) (tC (.int 3))) (tCons (tOp (zIx K) (tVar 1) (tC (.int 4))) (tCons (tOp (zIx K) (tVar 1) (tC (.int 5))) (tCons (tOp (zIx K) (tVar 1) (tC (.int 6))) (tCons (tOp (zIx K) (tVar 1) (tC (.int 7))) (tCons (tOp (zIx K) (tVar 1) (tC (.int 8))) (tCons (tOp (zIx K) (tVar 1) (tC (.int 9))) (tCons (tOp (zIx K) (tVar 1) (tC (.int 10))) (tCons (tOp (zIx K) (tVar 1) (tC (.int 11))) (tCons (tOp (zIx K) (tVar 1) (tC (.int 12))) (tCons (tOp (zIx K) (tVar 1) (tC (.int 13))) (tCons (tOp (zIx K) (tVar 1) (tC (.int 14))) (tCons (tOp (zIx K) (tVar 1) (tC (.int 15))) (tCons (tOp (zIx K) (tVar 1) (tC (.int 16))) (tCons (tOp (zIx K) (tVar 1) (tC (.int 17))) (tCons (tOp (zIx K) (tVar 1) (tC (.int 18))) (tCons (tOp (zIx K) (tVar 1) (tC (.int 19))) (tCons (tOp (zIx K) (tVar 1) (tC (.int 20))) (tCons (tOp (zIx K) (tVar 1) (tC (.int 21))) (tCons (tOp (zIx K) (tVar 1) (tC (.int 22))) (tCons (tOp (zIx K) (tVar 1) (tC (.int 23))) (tCons (tOp (zIx K) (tVar 1) (tC (.int 24))) (tCons (tOp (zIx K) (tVar 1) (tC (.int 25))) (tCons (tOp (zIx K) (tVar 1) (tC (.int 26))) (tCons (tOp (zIx K) (tVar 1) (tC (.int 27))) (tCons (tOp (zIx K) (tVar 1) (tC (.int 28))) (tCons (tOp (zIx K) (tVar 1) (tC (.int 29))) (tCons (tOp (zIx K) (tVar 1) (tC (.int 30))) (tCons (tOp (zIx K) (tVar 1) (tC (.int 31))) (tCons (tOp (zIx K) (tVar 1) (tC (.int 32))) (tCons (tOp (zIx K) (tVar 1) (tC (.int 33))) (tCons (tOp (zIx K) (tVar 1) (tC (.int 34))) (tCons (tOp (zIx K) (tVar 1) (tC (.int 35))) (tCons (tOp (zIx K) (tVar 1) (tC (.int 36))) (tCons (tOp (zIx K) (tVar 1) (tC (.int 37))) (tCons (tOp (zIx K) (tVar 1) (tC (.int 38))) (tCons (tOp (zIx K) (tVar 1) (tC (.int 39))) (tCons (tOp (zIx K) (tVar 1) (tC (.int 40))) (tCons (tOp (zIx K) (tVar 1) (tC (.int 41))) (tCons (tOp (zIx K) (tVar 1) (tC (.int 42))) (tCons (tOp (zIx K) (tVar 1) (tC (.int 43))) (tCons (tOp (zIx K) (tVar 1) (tC (.int 44))) (tCons (tOp (zIx K) (tVar 1) (tC (.int 45))) (tCons (tOp (zIx K) (tVar 1) (tC (.int 46))) (tCons (tOp (zIx K) (tVar 1) (tC (.int 47))) (tCons (tOp (zIx K) (tVar 1) (tC (.int 48))) (tCons (tOp (zIx K) (tVar 1) (tC (.int 49))) (tCons (tOp (zIx K) (tVar 1) (tC (.int 50))) (tCons (tOp (zIx K) (tVar 1) (tC (.int 51))) (tCons (tOp (zIx K) (tVar 1) (tC (.int 52))) (tCons (tOp (zIx K) (tVar 1) (tC (.int 53))) (tCons (tOp (zIx K) (tVar 1) (tC (.int 54))) (tCons (tOp (zIx K) (tVar 1) (tC (.int 55))) (tCons (tOp (zIx K) (tVar 1) (tC (.int 56))) (tCons (tOp (zIx K) (tVar 1) (tC (.int 57))) (tCons (tOp (zIx K) (tVar 1) (tC (.int 58))) (tCons (tOp (zIx K) (tVar 1) (tC (.int 59))) (tCons (tOp (zIx K) (tVar 1) (tC (.int 60))) (tCons (tOp (zIx K) (tVar 1) (tC (.int 61))) (tCons (tOp (zIx K) (tVar 1) (tC (.int 62))) (tCons (tOp (zIx K) (tVar 1) (tC (.int 63))) (tCons (tOp (zIx K) (tVar 1) (tC (.int 64))) (tCons (tOp (zIx K) (tVar 1) (tC (.int 65))) (tCons (tOp (zIx K) (tVar 1) (tC (.int 66))) (tCons (tOp (zIx K) (tVar 1) (tC (.int 67))) (tCons (tOp (zIx K) (tVar 1) (tC (.int 68))) (tCons (tOp (zIx K) (tVar 1) (tC (.int 69))) (tCons (tOp (zIx K) (tVar 1) (tC (.int 70))) (tCons (tOp (zIx K) (tVar 1) (tC (.int 71))) (tCons (tOp (zIx K) (tVar 1) (tC (.int 72))) (tCons (tOp (zIx K) (tVar 1) (tC (.int 73))) (tCons (tOp (zIx K) (tVar 1) (tC (.int 74))) (tCons (tOp (zIx K) (tVar 1) (tC (.int 75))) (tCons (tOp (zIx K) (tVar 1) (tC (.int 76))) (tCons (tOp (zIx K) (tVar 1) (tC (.int 77))) (tCons (tOp (zIx K) (tVar 1) (tC (.int 78))) (tCons (tOp (zIx K) (tVar 1) (tC (.int 79))) (tCons (tOp (zIx K) (tVar 1) (tC (.int 80))) (tCons (tOp (zIx K) (tVar 1) (tC (.int 81))) (tCons (tOp (zIx K) (tVar 1) (tC (.int 82))) (tCons (tOp (zIx K) (tVar 1) (tC (.int 83))) (tCons (tOp (zIx K) (tVar 1) (tC (.int 84))) (tCons (tOp (zIx K) (tVar 1) (tC (.int 85))) (tCons (tOp (zIx K) (tVar 1) (tC (.int 86))) (tCons (tOp (zIx K) (tVar 1) (tC (.int 87))) (tCons (tOp (zIx K) (tVar 1) (tC (.int 88))) (tCons (tOp (zIx K) (tVar 1) (tC (.int 89))) (tCons (tOp (zIx K) (tVar 1) (tC (.int 90))) (tCons (tOp (zIx K) (tVar 1) (tC (.int 91))) (tCons (tOp (zIx K) (tVar 1) (tC (.int 92))) (tCons (tOp (zIx K) (tVar 1) (tC (.int 93))) (tCons (tOp (zIx K) (tVar 1) (tC (.int 94))) (tCons (tOp (zIx K) (tVar 1) (tC (.int 95))) (tCons (tOp (zIx K) (tVar 1) (tC (.int 96))) (tCons (tOp (zIx K) (tVar 1) (tC (.int 97))) (tCons (tOp (zIx K) (tVar 1) (tC (.int 98))) (tCons (tOp (zIx K) (tVar 1) (tC (.int 99))) (tCons (tOp (zIx K) (tVar 1) (tC (.int 100))) (tCons (tOp (zIx K) (tVar 1) (tC (.int 101))) (tCons (tOp (zIx K) (tVar 1) (tC (.int 102))) (tCons (tOp (zIx K) (tVar 1) (tC (.int 103))) (tCons (tOp (zIx K) (tVar 1) (tC (.int 104))) (tCons (tOp (zIx K) (tVar 1) (tC (.int 105))) (tCons (tOp (zIx K) (tVar 1) (tC (.int 106))) (tCons (tOp (zIx K) (tVar 1) (tC (.int 107))) (tCons (tOp (zIx K) (tVar 1) (tC (.int 108))) (tCons (tOp (zIx K) (tVar 1) (tC (.int 109))) (tCons (tOp (zIx K) (tVar 1) (tC (.int 110))) (tCons (tOp (zIx K) (tVar 1) (tC (.int 111))) (tCons (tOp (zIx K) (tVar 1) (tC (.int 112))) (tCons (tOp (zIx K) (tVar 1) (tC (.int 113))) (tCons (tOp (zIx K) (tVar 1) (tC (.int 114))) (tCons (tOp (zIx K) (tVar 1) (tC (.int 115))) (tCons (tOp (zIx K) (tVar 1) (tC (.int 116))) (tCons (tOp (zIx K) (tVar 1) (tC (.int 117))) (tCons (tOp (zIx K) (tVar 1) (tC (.int 118))) (tCons (tOp (zIx K) (tVar 1) (tC (.int 119))) (tCons (tOp (zIx K) (tVar 1) (tC (.int 120))) (tCons (tOp (zIx K) (tVar 1) (tC (.int 121))) (tCons (tOp (zIx K) (tVar 1) (tC (.int 122))) (tCons (tOp (zIx K) (tVar 1) (tC (.int 123))) (tCons (tOp (zIx K) (tVar 1) (tC (.int 124))) (tCons (tOp (zIx K) (tVar 1) (tC (.int 125))) (tCons (tOp (zIx K) (tVar 1) (tC (.int 126))) (tCons (tOp (zIx K) (tVar 1) (tC (.int 127))) (tCons (tOp (zIx K) (tVar 1) (tC (.int 128))) (tCons (tOp (zIx K) (tVar 1) (tC (.int 129))) (tCons (tOp (zIx K) (tVar 1) (tC (.int 130))) (tCons (tOp (zIx K) (tVar 1) (tC (.int 131))) (tCons (tOp (zIx K) (tVar 1) (tC (.int 132))) (tCons (tOp (zIx K) (tVar 1) (tC (.int 133))) (tCons (tOp (zIx K) (tVar 1) (tC (.int 134))) (tCons (tOp (zIx K) (tVar 1) (tC (.int 135))) (tCons (tOp (zIx K) (tVar 1) (tC (.int 136))) (tCons (tOp (zIx K) (tVar 1) (tC (.int 137))) (tCons (tOp (zIx K) (tVar 1) (tC (.int 138))) (tCons (tOp (zIx K) (tVar 1) (tC (.int 139))) (tCons (tOp (zIx K) (tVar 1) (tC (.int 140))) (tCons (tOp (zIx K) (tVar 1) (tC (.int 141))) (tCons (tOp (zIx K) (tVar 1) (tC (.int 142))) (tCons (tOp (zIx K) (tVar 1) (tC (.int 143))) (tCons (tOp (zIx K) (tVar 1) (tC (.int 144))) (tCons (tOp (zIx K) (tVar 1) (tC (.int 145))) (tCons (tOp (zIx K) (tVar 1) (tC (.int 146))) (tCons (tOp (zIx K) (tVar 1) (tC (.int 147))) (tCons (tOp (zIx K) (tVar 1) (tC (.int 148))) (tCons (tOp (zIx K) (tVar 1) (tC (.int 149))) (tCons (tOp (zIx K) (tVar 1) (tC (.int 150))) (tCons (tOp (zIx K) (tVar 1) (tC (.int 151))) (tCons (tOp (zIx K) (tVar 1) (tC (.int 152))) (tCons (tOp (zIx K) (tVar 1) (tC (.int 153))) (tCons (tOp (zIx K) (tVar 1) (tC (.int 154))) (tCons (tOp (zIx K) (tVar 1) (tC (.int 155))) (tCons (tOp (zIx K) (tVar 1) (tC (.int 156))) (tCons (tOp (zIx K) (tVar 1) (tC (.int 157))) (tCons (tOp (zIx K) (tVar 1) (tC (.int 158))) (tCons (tOp (zIx K) (tVar 1) (tC (.int 159))) (tCons (tOp (zIx K) (tVar 1) (tC (.int 160))) (tCons (tOp (zIx K) (tVar 1) (tC (.int 161))) (tCons (tOp (zIx K) (tVar 1) (tC (.int 162))) (tCons (tOp (zIx K) (tVar 1) (tC (.int 163))) (tCons (tOp (zIx K) (tVar 1) (tC (.int 164))) (tCons (tOp (zIx K) (tVar 1) (tC (.int 165))) (tCons (tOp (zIx K) (tVar 1) (tC (.int 166))) (tCons (tOp (zIx K) (tVar 1) (tC (.int 167))) (tCons (tOp (zIx K) (tVar 1) (tC (.int 168))) (tCons (tOp (zIx K) (tVar 1) (tC (.int 169))) (tCons (tOp (zIx K) (tVar 1) (tC (.int 170))) (tCons (tOp (zIx K) (tVar 1) (tC (.int 171))) (tCons (tOp (zIx K) (tVar 1) (tC (.int 172))) (tCons (tOp (zIx K) (tVar 1) (tC (.int 173))) (tCons (tOp (zIx K) (tVar 1) (tC (.int 174))) (tCons (tOp (zIx K) (tVar 1) (tC (.int 175))) (tCons (tOp (zIx K) (tVar 1) (tC (.int 176))) (tCons (tOp (zIx K) (tVar 1) (tC (.int 177))) (tCons (tOp (zIx K) (tVar 1) (tC (.int 178))) (tCons (tOp (zIx K) (tVar 1) (tC (.int 179))) (tCons (tOp (zIx K) (tVar 1) (tC (.int 180))) (tCons (tOp (zIx K) (tVar 1) (tC (.int 181))) (tCons (tOp (zIx K) (tVar 1) (tC (.int 182))) (tCons (tOp (zIx K) (tVar 1) (tC (.int 183))) (tCons (tOp (zIx K) (tVar 1) (tC (.int 184))) (tCons (tOp (zIx K) (tVar 1) (tC (.int 185))) (tCons (tOp (zIx K) (tVar 1) (tC (.int 186))) (tCons (tOp (zIx K) (tVar 1) (tC (.int 187))) (tCons (tOp (zIx K) (tVar 1) (tC (.int 188))) (tCons (tOp (zIx K) (tVar 1) (tC (.int 189))) (tCons (tOp (zIx K) (tVar 1) (tC (.int 190))) (tCons (tOp (zIx K) (tVar 1) (tC (.int 191))) (tCons (tOp (zIx K) (tVar 1) (tC (.int 192))) (tCons (tOp (zIx K) (tVar 1) (tC (.int 193))) (tCons (tOp (zIx K) (tVar 1) (tC (.int 194))) (tCons (tOp (zIx K) (tVar 1) (tC (.int 195))) (tCons (tOp (zIx K) (tVar 1) (tC (.int 196))) (tCons (tOp (zIx K) (tVar 1) (tC (.int 197))) (tCons (tOp (zIx K) (tVar 1) (tC (.int 198))) (tCons (tOp (zIx K) (tVar 1) (tC (.int 199))) tNil))))))))))))))))))))))))))))))))))))))))))))))))))))))))))))))))))))))))))))))))))))))))))))))))))))))))))))))))))))))))))))))))))))))))))))))))))))))))))))))))))))))))))))))))))))))))))))))))))))))))) (tCons (tC (.int 1)) tNil))) (wAs K (.ref (ga K "TooMany")) 2 (fun a cls d => tRet (tXf a cls d (ga K "TooMany") "number" (tVar 2))) (fun _ _ _ _ => False) D) D σ H) (tRet (tC .non))
abbrev Zyx (K : PySem.W.Frag) : Sp := spD K cs_ Zvp
local macro_rules | `(tactic| walk_at "zv") => `(tactic| first | (dsimp only [Hk, Hq, Hf, Hg]; done) | (with_unfolding_all exact rfl))
local macro_rules | `(tactic| walk_at "sz") => `(tactic| (rw [sizeLine_eq]; (try simp only [Qc, Qe, Qm, Qb, Qo]); omega))
local macro_rules | `(tactic| walk_at "fz") => `(tactic| repeat with_reducible refine Wg.go ?_)
local macro_rules | `(tactic| walk_at "dw") => `(tactic| skip)
local macro_rules | `(tactic| walk_at "dx") => `(tactic| skip)
local macro_rules | `(tactic| walk_at "ds") => `(tactic| (walk_at "fz"; walk_at "dw"))
local macro_rules | `(tactic| walk_at "dz") => `(tactic| (walk_at "ds"; walk_at "dx"))
local macro_rules | `(tactic| walk_at "dx") => `(tactic| (((first | with_reducible refine z_eq ?_ | with_reducible refine Z0e ?_ | with_reducible refine z_F (c := isNon (.v _)) (by with_unfolding_all exact rfl) ?_ | with_reducible refine z_nF (c := isNon (.v _)) (by with_unfolding_all exact rfl) ?_ | with_reducible refine z_T (c := isNon (.v _)) (by with_unfolding_all exact rfl) ?_ | with_reducible refine z_nT (c := isNon (.v _)) (by with_unfolding_all exact rfl) ?_ | with_reducible refine z_F (by decide) ?_ | with_reducible refine z_T (by decide) ?_ | with_reducible refine z_nF (by decide) ?_ | with_reducible refine z_nT (by decide) ?_ | fail); walk_at "ds"); walk_at "dx"))
local macro_rules | `(tactic| walk_at "dw") => `(tactic| (((first | with_reducible refine Zsh (by first | (dsimp only [Hk, Hq, Hf, Hg]; done) | (with_unfolding_all exact rfl)) ?_ | with_reducible refine Zvf (by with_unfolding_all exact rfl) ?_ | with_reducible refine k_pu (by with_unfolding_all exact rfl) (by (rw [sizeLine_eq]; (try simp only [Qc, Qe, Qm, Qb, Qo]); omega)) ?_ | with_reducible refine iteT ?_ | with_reducible refine k_eq (by with_unfolding_all exact rfl) ?_ | with_reducible refine iteF ?_ | with_reducible refine k_sz (by (rw [sizeLine_eq]; (try simp only [Qc, Qe, Qm, Qb, Qo]); omega)) ?_ | with_reducible refine k_ne (by with_unfolding_all exact rfl) ?_ | with_reducible refine Zrb (by (rw [sizeLine_eq]; (try simp only [Qc, Qe, Qm, Qb, Qo]); omega)) ?_ | with_reducible refine Zod (by (rw [sizeLine_eq]; (try simp only [Qc, Qe, Qm, Qb, Qo]); omega)) ?_ | with_reducible refine Zre _ ?_ | with_reducible refine Zrd (by rfl) ?_ | with_reducible refine Ziz (by with_unfolding_all exact rfl) ?_ | with_reducible refine Zxt (by (rw [sizeLine_eq]; (try simp only [Qc, Qe, Qm, Qb, Qo]); omega)) ?_ | fail); walk_at "fz"); walk_at "dw"))
local macro_rules | `(tactic| walk_at "dx") => `(tactic| (((first | with_reducible refine Zve ?_ | with_reducible refine Zvd ?_ | with_reducible refine Zvc ?_ | with_reducible refine Zvb ?_ | with_reducible refine Z0g (by first | omega | (simp; done) | (simp; omega)) ?_ | with_reducible refine Z0f (by first | omega | (simp; done) | (simp; omega)) ?_ | with_reducible refine Zst (by first | omega | (simp; done) | (simp; omega)) ?_ | with_reducible refine Zss (by first | omega | (simp; done) | (simp; omega)) ?_ | with_reducible refine Z0i (by first | omega | (simp; done) | (simp; omega)) ?_ | with_reducible refine Z0h (by first | omega | (simp; done) | (simp; omega)) ?_ | fail); walk_at "ds"); walk_at "dx"))
local macro_rules | `(tactic| walk_at "dw") => `(tactic| (((first | with_reducible refine k_fo (by with_unfolding_all exact rfl) ?_ | fail); walk_at "fz"); walk_at "dw"))
local macro_rules | `(tactic| walk_at "dw") => `(tactic| (((first | with_reducible refine Zu9 (by decide) ?_ | with_reducible refine Zu7 (by decide) ?_ | fail); walk_at "fz"); walk_at "dw"))
local macro_rules | `(tactic| walk_at "dw") => `(tactic| (((first | with_reducible refine k_rd (by with_unfolding_all exact rfl) ?_ | with_reducible refine Zzp (by with_unfolding_all exact rfl) ?_ | fail); walk_at "fz"); walk_at "dw"))
local macro_rules | `(tactic| walk_at "dw") => `(tactic| (((first | with_reducible refine Zz0 (by with_unfolding_all exact rfl) ?_ | fail); walk_at "fz"); walk_at "dw"))
local macro_rules | `(tactic| walk_at "dw") => `(tactic| (((first | with_reducible refine k_enum ?_ | fail); walk_at "fz"); walk_at "dw"))
theorem Ziq {α : Type} {g : DG} {t : DS} {E : Zd8} (xs : List α) (inj : α → D) (f : α → List D) (k B : Nat) (I : DSt → Prop) {M : Mem} {ds0 : DSt} {acc : List D} (hk : ∀ x ∈ xs, (f x).length = k) (hB : acc.length + xs.length * k ≤ B) (h0 : I ds0)
  (hs : ∀ x ∈ xs, ∀ (ds : DSt) (acc' : List D) (N : DSt → Mem → Prop), acc'.length + k ≤ B → I ds → (∀ ds', I ds' → N ds' (M ++ [some (.lst (acc' ++ f x))])) → g (inj x) ds (M ++ [some (.lst acc')]) fun ds2 M2 => t { E with nx := N, ct := N, bk := E.nx } ds2 M2)
  (hd : ∀ ds, I ds → E.nx ds (M ++ [some (.lst (acc ++ xs.flatMap f))])) : Zeg g t E (xs.map inj) ds0 (M ++ [some (.lst acc)]) := by
 have hl : ∀ i, i ≤ xs.length → ((xs.take i).flatMap f).length = i * k := fun i hi => by
  rw [Li, List.map_congr_left (g := fun _ => k) (fun x hx => hk x (Q5 hx)), L0, G3, Qw, Gn hi]
 refine Zc0 (fun i ds M' => I ds ∧ M' = M ++ [some (.lst (acc ++ (xs.take i).flatMap f))]) ⟨h0, by rw [List.take_zero, H8, Qv]⟩ ?_ ?_
 ·rintro i x ds M1 N hx ⟨hI, rfl⟩ hN
  rw [Ql] at hx
  cases hy : xs[i]? with
  | none => rw [hy] at hx; cases hx
  | some y =>
   rw [hy] at hx
   cases hx
   have hi := (Qa.mp hy).1
   refine hs y (Qr hy) ds _ N ?_ hI fun ds' hI' => hN _ _ ⟨hI', ?_⟩
   ·rw [Qc, hl i (by omega)]
    have : (i + 1) * k ≤ xs.length * k := Nat.mul_le_mul_right _ (by omega)
    rw [Td] at this
    omega
   ·rw [Hw, hy, Gu, List.flatMap_append, Hy, H8, Qv, Hi]
 ·rintro ds M1 ⟨hI, rfl⟩
  rw [Qb, Q8]
  exact hd ds hI
theorem Zl1 (ds : List D) (M : Mem) (Q : DQ) (E : DX) (h : Zaz ds M Q E) : Zco (Zbf M E) { nx := fun _ M' => Zad M Q (.v .non) M', rt := Zad M Q } (Zae 13 ds) M := by
 obtain ⟨ls, vw, sts, d, rfl, ok, sm, hl, hd, nd, q, qe⟩ := h
 show Zco _ _ [some (.v (.cls .Lot)), some (.v (alph ls vw)), some (vI d), some (.v (.tup ((sts.map Stg.text).map PV.str))), none, none, none, none, none, none, none, none, none] M
 unfold Zco
 rw [Zca] at q qe
 walk_at "dz"
 rw [decide_eq_true (by omega : (0 : Int) ≤ (d : Int))]
 walk_at "dz"
 rw [decide_eq_true (by omega : (d : Int) ≤ 3)]
 walk_at "dz"
 refine ⟨ls, vw, sts, rfl, ok, sm, hl, ?_⟩
 walk_at "dz"
 have hll : ((sts.map Stg.text).map PV.str).length = sts.length := by rw [Qb, Qb]
 rw [hll]
 refine ⟨_, rfl, by omega, by omega, ?_⟩
 rw [Gg]
 refine Zc0 (fun i ds M' => M' = M ∧ ∃ v5, ds = [some (.v (.cls .Lot)), some (.v (alph ls vw)), some (vI d), some (.v (.tup ((sts.map Stg.text).map PV.str))), some (vL (sts.map (Stg.pv (alph ls vw)))), v5, none, none, none, none, none, none, none]) ⟨rfl, _, rfl⟩ ?_ ?_
 ·rintro i x ds M1 N hx ⟨rfl, v5, rfl⟩ hN
  have hi : i < sts.length := by
   have := (Qa.mp hx).1
   rwa [Qb, Hx] at this
  obtain rfl := Zls hx
  obtain ⟨s, hs⟩ : ∃ s, sts[i]? = some s := ⟨_, Qf hi⟩
  have htx : ((sts.map Stg.text).map PV.str)[i]? = some (.str s.text) := by rw [Ql, Ql, hs]; rfl
  walk_at "dz"
  refine Zvf (atI_nat htx) ?_
  walk_at "dz"
  refine Z8f (fun w => by rw [HT.sIx_nat, hll] at w; omega) ?_
  walk_at "dz"
  rw [Zot]
  refine Z5o (zs := (sts.map Stg.text).take i) (by rw [← Hn]) ?_
  rw [decide_eq_false (Zum nd (by rw [Ql, hs]; rfl))]
  walk_at "dz"
  exact hN _ _ ⟨rfl, _, rfl⟩
 rintro ds M1 ⟨rfl, v5, rfl⟩
 walk_at "dz"
 refine ⟨_, rfl, by omega, by omega, ?_⟩
 rw [Gg]
 refine Zc0 (fun i ds M' => M' = M1 ∧ ∃ v8, ds = [some (.v (.cls .Lot)), some (.v (alph ls vw)), some (vI d), some (.v (.tup ((sts.map Stg.text).map PV.str))), some (vL (sts.map (Stg.pv (alph ls vw)))), v5, some (vI (mny sts.length i : Nat)), some (vI (sts.length ^ i : Nat)), v8, none, none, none, none]) ⟨rfl, _, rfl⟩ ?_ ?_
 ·rintro i x ds M2 N hx ⟨rfl, v8, rfl⟩ hN
  walk_at "dz"
  refine Or.inl ⟨_, _, rfl, rfl, Or.inr ⟨by rw [Qb]; omega, by rw [Qb]; omega⟩, ?_⟩
  rw [show ((sts.length ^ i : Nat) : Int) * (((sts.map (Stg.pv (alph ls vw))).length : Nat) : Int) = ((sts.length ^ (i + 1) : Nat) : Int) by rw [Qb, Nat.pow_succ]; push_cast; rfl]
  walk_at "dz"
  exact hN _ _ ⟨rfl, _, by rw [show ((mny sts.length (i + 1) : Nat) : Int) = (mny sts.length i : Nat) + (sts.length ^ (i + 1) : Nat) from Int.natCast_add ..]; rfl⟩
 rintro ds M2 ⟨rfl, v8, rfl⟩
 rw [Qb, Hx]
 walk_at "dz"
 by_cases hb : mny sts.length d ≤ 200
 case neg =>
  rw [decide_eq_true (by omega : (((mny sts.length d : Nat) : Int) > 200))]
  walk_at "dz"
  exact ⟨_, rfl, rfl, Exit.refl M2, by rw [Q8]; exact qe (by omega)⟩
 have q := q hb
 rw [decide_eq_false (by omega : ¬ (((mny sts.length d : Nat) : Int) > 200))]
 walk_at "dz"
 refine Zhr (sts := []) (by decide) ?_
 walk_at "dz"
 refine ⟨_, rfl, by omega, by omega, ?_⟩
 rw [Gg]
 refine Zc0 (fun i ds M' => M' = M2 ∧ ∃ v8 v11 v12, ds = [some (.v (.cls .Lot)), some (.v (alph ls vw)), some (vI d), some (.v (.tup ((sts.map Stg.text).map PV.str))), some (vL (sts.map (Stg.pv (alph ls vw)))), v5, some (vI (mny sts.length d : Nat)), some (vI (sts.length ^ d : Nat)), v8, some (vL ((lvl sts i).map (encL (alph ls vw)))), some (vL ((lotR sts i).map (Zb6 (alph ls vw)))), v11, v12]) ⟨rfl, _, _, _, rfl⟩ ?_ ?_
 ·rintro i x ds M3 N hx ⟨rfl, v8, v11, v12, rfl⟩ hN
  have hi : i < d := by
   have := (Qa.mp hx).1
   rwa [Qb, Hx] at this
  have hb1 : mny sts.length (i + 1) ≤ 200 := Hb (Zho _ (by omega)) hb
  have hb2 : sts.length ^ (i + 1) ≤ 200 := Hb (Nat.le_add_left _ _) hb1
  walk_at "dz"
  rw [show ((lvl sts i).map (encL (alph ls vw))).map D.v = (lvl sts i).map (fun r => D.v (encL (alph ls vw) r)) from Qk ..]
  refine Zkz (fun r => D.v (encL (alph ls vw) r)) (fun s => D.v (Stg.pv (alph ls vw) s)) sts (fun r s => encL (alph ls vw) (r ++ [s])) (lvl sts i) [] ?_ (fun r hr QI qi => ?_) (fun r hr s hs Q' q' => ?_) ?_
  ·rw [Qm, Lu, show (lvl sts i).length * sts.length = sts.length ^ (i + 1) by rw [Zd1]; rfl, sizeLine_eq]; omega
  ·walk_at "dz"
   rw [Qk]
   exact qi
  ·walk_at "dz"
   refine ⟨_, rfl, ?_⟩
   walk_at "dz"
   have hrl := Zgb hr
   rw [show (r.map (Stg.pv (alph ls vw))).map D.v ++ [D.v (s.pv (alph ls vw))] = ((r ++ [s]).map (Stg.pv (alph ls vw))).map D.v by rw [Q1, Q1]; rfl]
   exact ⟨_, Zbg _, by rw [Qb, Qb, Qc, hrl, Gi, sizeLine_eq]; omega, q'⟩
  have hlv : ((lvl sts i).flatMap fun r => sts.map fun s => encL (alph ls vw) (r ++ [s])) = (lvl sts (i + 1)).map (encL (alph ls vw)) := by
   show _ = ((lvl sts i).flatMap _).map _
   rw [H7]
   congr 1
   funext r
   rw [Qk]
   rfl
  rw [Lg, hlv]
  walk_at "dz"
  rw [show ((lvl sts (i + 1)).map (encL (alph ls vw))).map D.v = (lvl sts (i + 1)).map (fun r => D.v (encL (alph ls vw) r)) from Qk ..]
  refine Zft (fun r => D.v (encL (alph ls vw) r)) (lvl sts (i + 1)) (fun r => Zb6 (alph ls vw) r) (show 11 < 13 by decide) (by rw [Zd1, sizeLine_eq]; omega) (fun r hr Q' q' => ?_) ?_
  ·have hrl := Zgb hr
   walk_at "dz"
   refine ⟨_, rfl, ?_⟩
   walk_at "dz"
   rw [Qv]
   exact Zhr (by omega) q'
  walk_at "dz"
  refine Zks (by rw [Qb, Qb, Zca, Zd1, sizeLine_eq]; have := Zho sts.length (by omega : i ≤ d); omega) ?_
  rw [← Q1, ← Zio]
  exact hN _ _ ⟨rfl, _, _, _, rfl⟩
 rintro ds M3 ⟨rfl, v8', v11, v12, rfl⟩
 rw [Qb, Hx]
 walk_at "dz"
 have oks : ∀ r ∈ lotR sts d, Zdd ls vw r ∧ r.length ≤ 10 := fun r hr => ⟨fun t ht => ok t ((Zmb hr).2 t ht), by have := (Zmb hr).1; omega⟩
 exact Zwa (by rw [← Lh, Zca]; exact Nat.lt_of_lt_of_le (Nat.one_pos : 0 < mny sts.length 0) (Zho _ (Q4 _))) (by rw [Zca]; omega) oks (Zus (fun x hx => (oks x hx).1) sm nd) (Zak q)
theorem Zuo {ls nm : List Nat} (h : nm ∈ namT ls) : nm.length ≤ 10 := by
 rcases Q2.mp h with h | h
 ·simp only [Qg, Qn, or_false] at h
  rcases h with rfl | rfl | rfl | rfl | rfl <;> decide
 ·obtain ⟨c, _, rfl⟩ := Qs.mp h
  exact (by decide : 3 ≤ 10)
theorem Z25 : ∀ a ∈ aftT, a.length ≤ 8 := by decide
theorem Z0r : ∀ a ∈ tlsT, a.length ≤ 14 := by decide
theorem Zn4 (ls : List Nat) : (namT ls).length = ls.length + 6 := by
 unfold namT
 rw [Qc, Qb, Qe]
 show 5 + (ls.length + 1) = _
 omega
theorem Zpm (ds : List D) (M : Mem) (Q : DQ) (E : DX) (h : Zfl ds M Q E) : Zdx { nx := fun _ M' => Zad M Q (.v .non) M', rt := Zad M Q } (Zae 6 ds) M := by
 obtain ⟨ls, rfl, hl, q⟩ := h
 show Zdx _ [some (vS ls), none, none, none, none, none] M
 unfold Zdx
 walk_at "dz"
 refine Zft (fun c => D.v (PV.str [c])) (45 :: ls) (fun c => PV.str ([91] ++ [c] ++ [93])) (show 3 < 6 by decide) (by rw [Qe, sizeLine_eq]; omega) (fun c hc Q' q' => ?_) ?_
 ·walk_at "dz"
  exact q'
 refine Zks (by rw [Qb, Qe, sizeLine_eq]; simp only [Qe, Qm]; omega) ?_
 rw [show [PV.str [97, 108, 108], PV.str [108, 101, 116, 116, 101, 114, 115], PV.str [118, 111, 119, 101, 108, 115], PV.str [99, 111, 110, 115, 111, 110, 97, 110, 116, 115], PV.str [106, 111, 105, 110, 116, 115]] ++ (45 :: ls).map (fun c => PV.str ([91] ++ [c] ++ [93])) = (namT ls).map PV.str by unfold namT; rw [Q1, Qk]; rfl]
 refine ⟨_, rfl, ?_⟩
 rw [show ((namT ls).map PV.str).map D.v = (namT ls).map (fun z => vS z) from Qk ..]
 refine Ziq (namT ls) (fun z => vS z) (fun nm => aftT.flatMap fun a => tlsT.map fun t => vS ([100, 114, 111, 112, 32] ++ nm ++ a ++ t)) 16 300 (fun ds => ∃ v2 v4 v5, ds = [some (vS ls), some (.cell M.length), v2, none, v4, v5]) (fun _ _ => rfl) (by rw [Zn4, Qm]; omega) ⟨_, _, _, rfl⟩ (fun nm hnm ds acc N hB hI hN => ?_) (fun ds hI => ?_)
 ·obtain ⟨v2, v4, v5, rfl⟩ := hI
  have hnl := Zuo hnm
  walk_at "dz"
  refine Ziq aftT (fun z => vS z) (fun a => tlsT.map fun t => vS ([100, 114, 111, 112, 32] ++ nm ++ a ++ t)) 4 300 (fun ds => ∃ v4 v5, ds = [some (vS ls), some (.cell M.length), some (vS nm), none, v4, v5]) (fun _ _ => rfl) hB ⟨_, _, rfl⟩ (fun a ha ds acc2 N2 hB2 hI2 hN2 => ?_) (fun ds hI2 => ?_)
  ·obtain ⟨v4, v5, rfl⟩ := hI2
   walk_at "dz"
   refine Ziq tlsT (fun z => vS z) (fun t => [vS ([100, 114, 111, 112, 32] ++ nm ++ a ++ t)]) 1 300 (fun ds => ∃ v5, ds = [some (vS ls), some (.cell M.length), some (vS nm), none, some (vS a), v5]) (fun _ _ => rfl) hB2 ⟨_, rfl⟩ (fun u hu ds acc3 N3 hB3 hI3 hN3 => ?_) (fun ds hI3 => ?_)
   ·obtain ⟨v5, rfl⟩ := hI3
    have hal := Z25 a ha
    have hul := Z0r u hu
    walk_at "dz"
    refine Z1x Zpt ?_
    walk_at "dz"
    refine Zvj (by rw [sizeLine_eq]; omega) ?_
    exact hN3 _ ⟨_, rfl⟩
   ·obtain ⟨v5, rfl⟩ := hI3
    exact hN2 _ ⟨_, _, rfl⟩
  ·obtain ⟨v4, v5, rfl⟩ := hI2
   exact hN _ ⟨_, _, _, rfl⟩
 ·obtain ⟨v2, v4, v5, rfl⟩ := hI
  walk_at "dz"
  have e : ((namT ls).flatMap fun nm => aftT.flatMap fun a => tlsT.map fun t => vS ([100, 114, 111, 112, 32] ++ nm ++ a ++ t)) = ((frmT ls).map PV.str).map D.v := by
   unfold frmT
   rw [H7, H7]
   rfl
  rw [Lg, e]
  refine ⟨_, _, Zmk (Qj ..), ?_⟩
  rw [Zbi]
  exact Z0m q
def ixA : Nat → Nat → DA
 | _, 0 => dNil
 | k, n + 1 => Zaa (dOp uIx (dVar 1) (dC (.int (k : Nat)))) (ixA (k + 1) n)
theorem Zpy {L : List (List Nat)} {ds : DSt} {M : Mem} (hd : ds[1]? = some (some (vL (L.map PV.str)))) : ∀ (n k : Nat) (QA : List D → Mem → Prop), k + n ≤ L.length → QA (((L.drop k).take n).map fun z => vS z) M → ixA k n ds M QA
 | 0, _, _, _, q => by rw [List.take_zero] at q; exact q
 | n + 1, k, QA, h, q => by
  obtain ⟨z, hz⟩ : ∃ z, L[k]? = some z := ⟨_, Qf (by omega)⟩
  refine Zoc ?_
  refine k_op ?_
  refine ⟨_, hd, ?_⟩
  refine k_c ?_
  refine Ziz (atI_nat (by rw [Ql, hz]; rfl)) ?_
  refine Zpy hd n (k + 1) _ (by omega) ?_
  have e : L.drop k = z :: L.drop (k + 1) := by
   obtain ⟨hk, rfl⟩ := Qa.mp hz
   exact Qu hk
  rw [e] at q
  exact q
theorem Z2k : Zhl = dRet (Zje .Lot 2 1 catD Zaz noX (dC (.cls .Lot)) (Zaa (dVar 0) (ixA 0 199)) (Zaa (dC (.int 1)) dNil)) := rfl
theorem Z1p : Zhk = dSeq (dTry [(.TooMany, true)] 2 (fun W => Zeh (Zfs .Lot 2 1 catD Zaz W (dC (.cls .Lot)) (Zaa (dVar 0) (ixA 0 200)) (Zaa (dC (.int 1)) dNil))) (fun a e => dRet (dXf a e .TooMany .number (dVar 2))) (fun _ _ _ => False)) (dRet (dC .non)) := rfl
theorem Zxo (n : Nat) : mny n 1 = 1 + n := by show 1 + n ^ 1 = _; rw [Nat.pow_one]
theorem Zsb (ds : List D) (M : Mem) (Q : DQ) (E : DX) (h : Zhp ds M Q E) : Zhl { nx := fun _ M' => Zad M Q (.v .non) M', rt := Zad M Q } (Zae 2 ds) M := by
 obtain ⟨ls, vw, sts, rfl, ok, sm, hl, hl2, nd, q⟩ := h
 rw [Z2k]
 show (dRet _) _ [some (.v (alph ls vw)), some (vL ((sts.map Stg.text).map PV.str))] M
 have hlt : (sts.map Stg.text).length = sts.length := Qb ..
 have hm : (sts.take 199).length = 199 := by rw [Qw]; omega
 refine Z11 ?_
 refine Zxz ?_
 refine k_c ⟨rfl, ?_⟩
 refine Zoc ?_
 refine ⟨_, rfl, ?_⟩
 refine Zpy rfl 199 0 _ (by omega) ?_
 walk_at "dz"
 refine ⟨[.v (.cls .Lot), .v (alph ls vw)], ((sts.take 199).map Stg.text).map PV.str, ?_, rfl, rfl, by rw [Qb, Qb, hm, sizeLine_eq]; omega, ls, vw, sts.take 199, 1, rfl, fun t ht => ok t (Q5 ht), sm, by omega, by decide, ?_, fun _ => Zak q, fun hh => ?_⟩
 ·rw [L9, show (sts.map Stg.text).take 199 = (sts.take 199).map Stg.text from Hn.symm, Qk, Qk, Qk]
  rfl
 ·exact nd.sublist ((Hl _ _).map _)
 ·rw [Zca, Zxo, hm] at hh
  omega
theorem Zsa (ds : List D) (M : Mem) (Q : DQ) (E : DX) (h : Zfk ds M Q E) : Zhk { nx := fun _ M' => Zad M Q (.v .non) M', rt := Zad M Q } (Zae 3 ds) M := by
 obtain ⟨ls, vw, sts, rfl, ok, sm, hl, hl2, nd, q⟩ := h
 rw [Z1p]
 show (dSeq _ _) _ [some (.v (alph ls vw)), some (vL ((sts.map Stg.text).map PV.str)), none] M
 have hlt : (sts.map Stg.text).length = sts.length := Qb ..
 have hm : (sts.take 200).length = 200 := by rw [Qw]; omega
 refine Z10 ?_
 refine Z45 ?_
 refine k_drop ?_
 refine Zvh ?_
 refine k_c ⟨rfl, ?_⟩
 refine Zoc ?_
 refine ⟨_, rfl, ?_⟩
 refine Zpy rfl 200 0 _ (by omega) ?_
 walk_at "dz"
 refine ⟨[.v (.cls .Lot), .v (alph ls vw)], ((sts.take 200).map Stg.text).map PV.str, ?_, rfl, rfl, by rw [Qb, Qb, hm, sizeLine_eq]; omega, ls, vw, sts.take 200, 1, rfl, fun t ht => ok t (Q5 ht), sm, by omega, by decide, ?_, fun hh => ?_, fun hh => ?_⟩
 ·rw [L9, show (sts.map Stg.text).take 200 = (sts.take 200).map Stg.text from Hn.symm, Qk, Qk, Qk]
  rfl
 ·exact nd.sublist ((Hl _ _).map _)
 ·rw [Zca, Zxo, hm] at hh
  omega
 ·rw [Zca, Zxo, hm]
  refine ⟨true, rfl, fun _ a => ?_, fun h => nomatch h⟩
  walk_at "dz"
  refine ⟨rfl, rfl, by decide, _, rfl, ?_⟩
  walk_at "dz"
  exact Zak q
theorem Z9e {M : Mem} {Q : DQ} {xs : List PV} (h : Q (vB true) M) : uIsi Zk3 (.ty "list") [vL xs, .v (.ty "list")] M Q := ⟨_, .t "list", true, rfl, rfl, rfl, h⟩
theorem Zvr {M : Mem} {l : List (List Nat)} : frz (M ++ [some (.lst (l.map fun y => vS y))]) (.cell M.length) = some (.lst (l.map PV.str), M ++ [none]) := by
 have e : (l.map fun y => vS y) = (l.map PV.str).map D.v := by rw [Qk]; rfl
 rw [e, Zmk (Qj ..), Zbi]
theorem Zww {ls vw : List Nat} (sm : ∀ c ∈ ls, c ∈ small) {a b : Stg} (ok1 : a.ok ls vw) (ok2 : b.ok ls vw) (h : a.text = b.text) : a = b := by
 have h1 := Zhg ok1 sm
 rw [h, Zhg ok2 sm] at h1
 have h2 := Zl4 ok1
 rw [← h1, Zl4 ok2] at h2
 exact (Sum.inr.inj h2).symm
def flg : List (Bool × Bool) := [(false, false), (true, false), (false, true), (true, true)]
def frm (ls vw : List Nat) : List Stg := (namT ls).flatMap fun nm => [0, 1, 2, 3].flatMap fun a => flg.map fun p => Stg.drop nm (mem ls vw nm) a p.1 p.2
theorem Zrl (ls vw : List Nat) : (frm ls vw).map Stg.text = frmT ls := by
 unfold frm frmT
 rw [H7]
 congr 1
 funext nm
 have d1 : dig 1 = [49] := by decide
 have d2 : dig 2 = [50] := by decide
 have d3 : dig 3 = [51] := by decide
 simp only [flg, aftT, tlsT, Hy, H8, Ha, Lq, List.cons_append, Lg, Qv, Stg.text, d1, d2, d3]
 simp
theorem Z2l {ls vw : List Nat} {st : Stg} (h : st ∈ frm ls vw) : ∃ nm ∈ namT ls, ∃ a ≤ 3, ∃ e l, st = Stg.drop nm (mem ls vw nm) a e l := by
 obtain ⟨nm, hn, h⟩ := Q9.mp h
 obtain ⟨a, ha, h⟩ := Q9.mp h
 obtain ⟨p, _, rfl⟩ := Qs.mp h
 refine ⟨nm, hn, a, ?_, p.1, p.2, rfl⟩
 simp only [Qg, Qn, or_false] at ha
 omega
theorem Z4w {ls nm : List Nat} (h : nm ∈ namT ls) : okN ls nm := by
 rcases Q2.mp h with h | h
 ·simp only [Qg, Qn, or_false] at h
  rcases h with rfl | rfl | rfl | rfl | rfl
  ·exact Or.inl rfl
  ·exact Or.inr (Or.inl rfl)
  ·exact Or.inr (Or.inr (Or.inl rfl))
  ·exact Or.inr (Or.inr (Or.inr (Or.inl rfl)))
  ·exact Or.inr (Or.inr (Or.inr (Or.inr (Or.inl rfl))))
 ·obtain ⟨c, hc, rfl⟩ := Qs.mp h
  refine Or.inr (Or.inr (Or.inr (Or.inr (Or.inr ⟨Qz 3, rfl, rfl, ?_, ?_⟩))))
  ·exact Zpz.mpr fun x hx => by rw [Qq.mp (show x ∈ [c] from hx)]; exact hc
  ·exact Lw _ _
theorem Z6e (ls vw : List Nat) : Zdd ls vw (frm ls vw) := fun st h => by
 obtain ⟨nm, hn, a, ha, e, l, rfl⟩ := Z2l h
 exact ⟨Z4w hn, rfl, Hb (Zuo hn) (by decide), ha⟩
theorem Zun {ls : List Nat} (nd : (45 :: ls).Nodup) : (namT ls).Nodup := by
 unfold namT
 rw [Hv]
 refine ⟨by decide, ?_, fun a ha b hb e => ?_⟩
 ·refine Ln _ (fun a b hab e => hab ?_) nd
  simpa using e
 ·obtain ⟨c, _, rfl⟩ := Qs.mp hb
  subst e
  simp at ha
theorem Zvs {ls : List Nat} (vw : List Nat) (nd : (45 :: ls).Nodup) : (frm ls vw).Nodup := by
 refine Zdb (Zun nd) (fun nm _ => Zdb (by decide) (fun a _ => ?_) (fun a _ b _ y hy hz => ?_)) (fun nm _ nm' _ y hy hz => ?_)
 ·refine Ln _ (fun p q hpq e => hpq ?_) (by decide : flg.Nodup)
  injection e with _ _ _ h1 h2
  exact Prod.ext h1 h2
 ·obtain ⟨p, _, rfl⟩ := Qs.mp hy
  obtain ⟨p', _, e⟩ := Qs.mp hz
  injection e with _ _ h _ _
  exact h.symm
 ·obtain ⟨a, _, hy⟩ := Q9.mp hy
  obtain ⟨a', _, hz⟩ := Q9.mp hz
  obtain ⟨p, _, rfl⟩ := Qs.mp hy
  obtain ⟨p', _, e⟩ := Qs.mp hz
  injection e with h _ _ _ _
  exact h.symm
theorem Zoi (ls vw : List Nat) : (frm ls vw).length = (ls.length + 6) * 16 := by
 unfold frm
 rw [Li]
 show ((namT ls).map fun _ => 16).sum = _
 rw [L0, G3, Zn4]
theorem Z2n (s : Nat) (h : s ≤ 18) : ((small.drop s).take 8).length = 8 := by
 rw [Qw, List.length_drop, show small.length = 26 from rfl]
 omega
theorem Zi4 (s : Nat) : ((small.drop s).take 8).Sublist small := (Hl _ _).trans (List.drop_sublist _ _)
theorem Zyc (s : Nat) (h : s ≤ 18) : okL ((small.drop s).take 8) :=
 ⟨fun c hc => (Zi4 s).subset hc, by rw [Z2n s h]; decide, by rw [Z2n s h]; decide, (by decide : small.Nodup).sublist (Zi4 s)⟩
theorem Zvx (s : Nat) : ((small.drop s).take 8).Pairwise (· < ·) := (by decide : small.Pairwise (· < ·)).sublist (Zi4 s)
theorem cutM {α : Type} (z : List α) (a b : Nat) (h : a + b ≤ z.length) : cut z (some (a : Int)) (some ((a : Int) + (b : Nat))) = (z.drop a).take b := by
 rw [show ((a : Int) + (b : Nat)) = ((a + b : Nat) : Int) by push_cast; rfl]
 unfold cut
 rw [HT.sIx_nat, HT.sIx_nat, Gn (by omega), Gn (by omega)]
 congr 1
 omega
theorem Zv3 {ls : List Nat} (nd : ls.Nodup) (k : Nat) : ls.take k ++ cons ls (ls.take k) = ls := by
 have e : cons ls (ls.take k) = ls.drop k := by
  unfold cons
  have h1 : ls.filter (fun c => !decide (c ∈ ls.take k)) = (ls.take k ++ ls.drop k).filter (fun c => !decide (c ∈ ls.take k)) := by rw [Gj]
  rw [h1, Ll, Gz.mpr (fun c hc => by simp [hc]), Lg, List.filter_eq_self.mpr fun c hc => ?_]
  rw [← Gj k ls, Hv] at nd
  have : c ∉ ls.take k := fun h => nd.2.2 c h c hc rfl
  simp [this]
 rw [e, Gj]
theorem Zsf (k : List Stg) : (lotR k 1).map Zbp = Zgo :: k.map Stg.text := by
 rw [Zio, Q1]
 show [Zgo] ++ (([[]] : List (List Stg)).flatMap fun row => k.map fun s => row ++ [s]).map Zbp = _
 rw [Hy, H8, Qv, Qk]
 rfl
theorem Z1k (ds : List D) (M : Mem) (Q : DQ) (E : DX) (h : Zvp ds M Q E) : Zud { nx := fun _ M' => Q (.v .non) M', rt := Q } (Zae 10 ds) M := by
 obtain ⟨ns, rfl, _, q⟩ := h
 show Zud _ [some (.v (.scr ns)), none, none, none, none, none, none, none, none, none] M
 unfold Zud
 walk_at "dz"
 refine Z9f fun c0 hc0 hb0 => ?_
 walk_at "dz"
 refine Zv9 hb0 (by decide) (by decide) fun s M1 hs d1 hb1 => ?_
 walk_at "dz"
 have hs18 : s ≤ 18 := by omega
 generalize hls : (small.drop s).take 8 = ls
 have ec : cut small (some (s : Int)) (some ((s : Int) + 8)) = ls := by rw [← hls]; exact cutM small s 8 (by rw [show small.length = 26 from rfl]; omega)
 rw [ec]
 have ol : okL ls := hls ▸ Zyc s hs18
 have asc : ls.Pairwise (· < ·) := hls ▸ Zvx s
 have l8 : ls.length = 8 := hls ▸ Z2n s hs18
 have sm : ∀ c ∈ ls, c ∈ small := ol.1
 refine Ziy ?_
 walk_at "dz"
 refine Zv9 hb1 (by decide) (by decide) fun k M2 hk d2 hb2 => ?_
 walk_at "dz"
 refine ⟨rfl, rfl, ?_⟩
 rw [Zot]
 refine Z6t ol asc (Hl k ls) ?_
 generalize hvw : ls.take k = vw
 walk_at "dz"
 refine ⟨ls, rfl, by omega, ?_⟩
 walk_at "dz"
 have hfl : ((frmT ls).map PV.str).length = 224 := by rw [← Zrl ls vw, Qb, Qb, Zoi, l8]
 rw [hfl]
 refine Zv9 hb2 (by decide) (by decide) fun c M3 hc d3 hb3 => ?_
 walk_at "dz"
 refine Zks (by rw [Zv1, Zot, List.length_drop, Qw, hfl, sizeLine_eq]; omega) ?_
 rw [Zv1, Zot]
 generalize hst : (frm ls vw).drop c ++ (frm ls vw).take c = sts
 have est : ((frmT ls).map PV.str).drop c ++ ((frmT ls).map PV.str).take c = (sts.map Stg.text).map PV.str := by
  rw [← hst, ← Zrl ls vw, Q1, Q1, Ta, Ta, Hn, Hn]
 rw [est]
 have nd45 : (45 :: ls).Nodup := Hd.mpr ⟨fun h => absurd (sm 45 h) (by decide), ol.2.2.2⟩
 have pm : sts.Perm (frm ls vw) := by rw [← hst]; exact List.perm_append_comm.trans (by rw [Gj])
 have ok : Zdd ls vw sts := fun t ht => Z6e ls vw t (pm.mem_iff.mp ht)
 have nds : sts.Nodup := pm.nodup_iff.mpr (Zvs vw nd45)
 have lst : sts.length = 224 := by rw [pm.length_eq, Zoi, l8]
 have ndt : (sts.map Stg.text).Nodup := by
  rw [List.Nodup, Gf]
  exact nds.imp_of_mem fun ha hb hab e => hab (Zww sm (ok _ ha) (ok _ hb) e)
 walk_at "dz"
 refine ⟨_, _, _, rfl, rfl, ?_⟩
 walk_at "dz"
 refine ⟨_, _, _, rfl, rfl, ?_⟩
 walk_at "dz"
 refine ⟨_, _, _, rfl, rfl, ?_⟩
 have hcv : vw ++ cons ls vw = ls := by rw [← hvw]; exact Zv3 ol.2.2.2 k
 have hvl : vw.length ≤ 8 := by rw [← hvw, Qw]; omega
 have hcl : (cons ls vw).length ≤ 8 := by have := congrArg List.length hcv; rw [Qc] at this; omega
 walk_at "dz"
 rw [hcv, decide_eq_true rfl]
 walk_at "dz"
 refine ⟨ls, vw, sts, rfl, ok, sm, by omega, by omega, ndt, ?_⟩
 walk_at "dz"
 have h199 : (sts.take 199).length = 199 := by rw [Qw]; omega
 have hL : (lotR (sts.take 199) 1).length = 200 := by rw [Zca, Zxo, h199]
 have oks1 : ∀ r ∈ lotR (sts.take 199) 1, Zdd ls vw r ∧ r.length ≤ 10 := fun r hr => ⟨fun t ht => ok t (Q5 ((Zmb hr).2 t ht)), by have := (Zmb hr).1; omega⟩
 refine ⟨_, _, rfl, rfl, _, _, rfl, _, rfl, by omega, ?_⟩
 rw [hL]
 walk_at "dz"
 refine ⟨_, ls, vw, _, rfl, oks1, by omega, ?_⟩
 have ascT : ∀ {l : List Stg}, (∀ t ∈ l, t ∈ sts) → asc3 (l.map Stg.text) := fun {l} hl p hp => by
  obtain ⟨t, ht, rfl⟩ := Qs.mp hp
  exact Zqp (ok t (hl t ht)) sm
 rw [show ((lotR (sts.take 199) 1).map fun r => vS (Zbp r)) = ((lotR (sts.take 199) 1).map Zbp).map (fun y => vS y) by rw [Qk]; rfl, Zsf]
 refine ⟨_, _, Zvr, ?_⟩
 walk_at "dz"
 have hcut : ∀ n : Nat, cut ((sts.map Stg.text).map PV.str) none (some ((n : Nat) : Int)) = ((sts.take n).map Stg.text).map PV.str := fun n => by rw [Zot, Hn, Hn]
 rw [show (199 : Int) = ((199 : Nat) : Int) from rfl, hcut]
 refine Zks (by rw [Qb, Qb, h199, sizeLine_eq]; simp only [Qe, Qm]; omega) ?_
 have asc1 : asc3 (Zgo :: (sts.take 199).map Stg.text) := fun p hp => by
  rcases Qg.mp hp with rfl | hp
  ·decide
  ·exact ascT (fun t ht => Q5 ht) p hp
 refine Z5h (as := Zgo :: (sts.take 199).map Stg.text) (bs := Zgo :: (sts.take 199).map Stg.text) rfl rfl asc1 asc1 ?_
 rw [decide_eq_true rfl]
 walk_at "dz"
 refine ⟨ls, vw, sts, rfl, ok, sm, by omega, by omega, ndt, ?_⟩
 walk_at "dz"
 rw [show (201 : Int) = ((201 : Nat) : Int) from rfl, hcut]
 have h201 : (sts.take 201).length = 201 := by rw [Qw]; omega
 have ok201 : Zdd ls vw (sts.take 201) := fun t ht => ok t (Q5 ht)
 rw [show (((sts.take 201).map Stg.text).map PV.str).map D.v = (sts.take 201).map (fun s => vS s.text) by rw [Qk, Qk]; rfl]
 refine Zft (fun s => vS (Stg.text s)) (sts.take 201) (fun s => Zb6 (alph ls vw) [s]) (show 9 < 10 by decide) (by rw [h201, sizeLine_eq]; omega) (fun s hs Q' q' => ?_) ?_
 ·walk_at "dz"
  exact ⟨ls, vw, [s], rfl, fun t ht => by rw [Qq.mp ht]; exact ok201 s hs, sm, (by decide : 1 ≤ 4), q'⟩
 walk_at "dz"
 have oksG : ∀ r ∈ (sts.take 201).map (fun s => [s]), Zdd ls vw r ∧ r.length ≤ 10 := fun r hr => by
  obtain ⟨s, hs, rfl⟩ := Qs.mp hr
  exact ⟨fun t ht => by rw [Qq.mp ht]; exact ok201 s hs, (by decide : 1 ≤ 10)⟩
 have etx : ((sts.take 201).map (fun s => [s])).map Zbp = (sts.take 201).map Stg.text := by rw [Qk]; rfl
 rw [show (sts.take 201).map (fun s => Zb6 (alph ls vw) [s]) = ((sts.take 201).map (fun s => [s])).map (Zb6 (alph ls vw)) by rw [Qk]; rfl]
 refine Zwa (by intro e; have := congrArg List.length e; rw [Qb, h201] at this; cases this) (by rw [Qb, h201]; decide) oksG (by rw [etx]; exact ndt.sublist ((Hl _ _).map _)) ?_
 walk_at "dz"
 refine ⟨_, ls, vw, _, rfl, oksG, by rw [Qb, h201]; decide, ?_⟩
 rw [show (((sts.take 201).map (fun s => [s])).map fun r => vS (Zbp r)) = ((sts.take 201).map Stg.text).map (fun y => vS y) by rw [Qk, Qk]; rfl]
 refine ⟨_, _, Zvr, ?_⟩
 walk_at "dz"
 rw [hcut]
 refine Zvg (as := (sts.take 201).map Stg.text) (bs := (sts.take 201).map Stg.text) rfl rfl (ascT fun t ht => Q5 ht) (ascT fun t ht => Q5 ht) ?_
 rw [decide_eq_true rfl]
 walk_at "dz"
 refine Z9e ?_
 walk_at "dz"
 rw [Qb, Qb, h201]
 rw [decide_eq_true rfl]
 exact q _
end Cl.Kl
set_option synthInstance.maxSize 1000000
set_option synthInstance.maxHeartbeats 4000000
namespace Cl.Kl
open PySem PySem.Spec PyProof.Rows L2 He ClX
local macro_rules | `(tactic| walk_at "sa") => `(tactic| repeat' (first | with_reducible exact Zaf | with_reducible exact Zlf | with_reducible exact Zcz | with_reducible exact Zfa | with_reducible exact Z01 | with_reducible exact Zte | with_reducible exact Zni | with_reducible exact Z05 | with_reducible exact Zw7 | exact Zjq fun _ => rfl | with_reducible apply Zhj | with_reducible apply Zh7 | with_reducible apply Zan | with_reducible apply Zlm | with_reducible apply Ze9 | with_reducible apply Zf2 | with_reducible apply Zdk | with_reducible apply Zty | with_reducible apply Ztw | with_reducible apply Zpc | with_reducible apply Zbx | with_reducible apply Zia | with_reducible apply Zpi | with_reducible apply Ztn | with_reducible apply Zpd | with_reducible apply Zlh | with_reducible apply Zlj | with_reducible apply Zpj | with_reducible apply Zpe | with_reducible apply Zh9 | with_reducible apply Zw6 | with_reducible apply Z0y | with_reducible apply Zll | with_reducible apply Zh8 | with_reducible apply Zpb | with_reducible apply Z0z | with_reducible apply Znk | with_reducible apply Ztv | with_reducible apply Zph | with_reducible apply Zle | with_reducible apply Ztp | with_reducible apply Zs9 | with_reducible apply Z02 | with_reducible apply Zpa | with_reducible apply Ztq | with_reducible apply Zlc | with_reducible apply Z07 | with_reducible apply Z03 | with_reducible apply Z1a | with_reducible apply Zto | with_reducible apply Zln | with_reducible apply Zli | with_reducible apply Zlk | with_reducible apply Zf3 | with_reducible apply Zlb | with_reducible apply Zw2 | with_reducible apply Ztf | with_reducible apply Z00 | with_reducible apply Zqw | with_reducible apply Zw1 | with_reducible apply Zo9 | with_reducible apply Z04 | with_reducible apply Ztj | with_reducible apply Z3o | with_reducible apply Zib | with_reducible apply Zhi | with_reducible apply Ztc | with_reducible apply Ztk | with_reducible apply Z06 | with_reducible apply Z09 | with_reducible apply Zw5 | with_reducible apply Ztm | with_reducible apply Ztb | with_reducible apply Ztu))
local macro_rules | `(tactic| walk_at "qs1") => `(tactic| (first | apply Ztr | apply Zqw | apply Zr3 | apply Zw4 | fail))
local macro_rules | `(tactic| walk_at "qs1") => `(tactic| (first | apply Zan | apply Zf2 | apply Zdk | apply Zbx | apply Zlm | apply Zia | apply Zbm | apply Zll | fail))
local macro_rules | `(tactic| walk_at "qs2") => `(tactic| (first | with_reducible apply Zy2 | with_reducible apply Zy6 | with_reducible apply Zkn | with_reducible apply Zkj | with_reducible apply Znn | with_reducible apply Ztt | fail))
local macro_rules | `(tactic| walk_at "qs2") => `(tactic| (first | with_reducible apply Ztp | with_reducible apply Zib | with_reducible apply Zy1 | with_reducible apply Ztx | with_reducible apply Znj | with_reducible apply Znm | with_reducible apply Zno | with_reducible apply Znp | fail))
local macro_rules | `(tactic| walk_at "qs2") => `(tactic| (first | with_reducible apply Zpe | with_reducible apply Zlg | with_reducible apply Zy0 | with_reducible apply Zts | with_reducible apply Zlh | with_reducible apply Zln | with_reducible apply Zkm | with_reducible apply Zqv | fail))
local macro_rules | `(tactic| walk_at "qs2") => `(tactic| (first | with_reducible apply Zqy | with_reducible apply Ztv | with_reducible apply Zdj | with_reducible apply Zpi | with_reducible apply Zph | with_reducible apply Zy4 | with_reducible apply Zy7 | with_reducible apply Ztq | fail))
local macro_rules | `(tactic| walk_at "qs2") => `(tactic| (first | with_reducible apply Zaf | with_reducible apply Zy5 | with_reducible apply Zh7 | with_reducible apply Zy3 | with_reducible apply Zty | with_reducible apply Zpd | with_reducible apply Zpc | with_reducible apply Zpf | fail))
local macro_rules | `(tactic| walk_at "qs3") => `(tactic| with_reducible apply Zqu)
local macro_rules | `(tactic| walk_at "qs3") => `(tactic| with_reducible apply Zlf)
local macro_rules | `(tactic| walk_at "qs3") => `(tactic| with_reducible apply Zhj)
local macro_rules | `(tactic| walk_at "qs4") => `(tactic| (first | with_reducible apply Zbm | with_reducible apply Zc6 | with_reducible apply Zkl | with_reducible apply Zkk | with_reducible apply Zqz | with_reducible apply Znl | fail))
local macro_rules | `(tactic| walk_at "qs4") => `(tactic| (first | with_reducible apply Zan | with_reducible apply Zlm | with_reducible apply Zdk | with_reducible apply Zf2 | with_reducible apply Zcz | with_reducible apply Zll | with_reducible apply Zbx | with_reducible apply Zia | fail))
local macro_rules | `(tactic| walk_at "qs5") => `(tactic| (first | with_reducible apply Zyy | with_reducible apply Ztl | fail))
local macro_rules | `(tactic| walk_at "qs5") => `(tactic| (first | with_reducible apply Zw2 | with_reducible apply Z00 | with_reducible apply Z04 | with_reducible apply Zlb | with_reducible apply Ztj | with_reducible apply Ztk | with_reducible apply Ztm | with_reducible apply Zti | fail))
local macro_rules | `(tactic| walk_at "qs5") => `(tactic| (first | with_reducible apply Z01 | with_reducible apply Zni | with_reducible apply Z05 | with_reducible apply Z0z | with_reducible apply Z0y | with_reducible apply Z03 | with_reducible apply Z02 | with_reducible apply Zlc | fail))
local macro_rules | `(tactic| walk_at "qs6") => `(tactic| with_reducible apply Zpb)
local macro_rules | `(tactic| walk_at "qs6") => `(tactic| with_reducible apply Znk)
local macro_rules | `(tactic| walk_at "qs6") => `(tactic| with_reducible apply Zpj)
local macro_rules | `(tactic| walk_at "qs6") => `(tactic| with_reducible apply Zh8)
local macro_rules | `(tactic| walk_at "qs6") => `(tactic| with_reducible apply Zld)
local macro_rules | `(tactic| walk_at "qs6") => `(tactic| with_reducible apply Ze9)
local macro_rules | `(tactic| walk_at "qs7") => `(tactic| with_reducible apply Ztd)
local macro_rules | `(tactic| walk_at "qs7") => `(tactic| with_reducible apply Ztb)
local macro_rules | `(tactic| walk_at "qs7") => `(tactic| with_reducible apply Ztc)
local macro_rules | `(tactic| walk_at "qs7") => `(tactic| with_reducible apply Zo9)
local macro_rules | `(tactic| walk_at "qs7") => `(tactic| with_reducible apply Ztf)
local macro_rules | `(tactic| walk_at "qs7") => `(tactic| with_reducible apply kIsi)
local macro_rules | `(tactic| walk_at "qs7") => `(tactic| with_reducible apply Zte)
local macro_rules | `(tactic| walk_at "qs8") => `(tactic| with_reducible apply Zqt)
local macro_rules | `(tactic| walk_at "qs8") => `(tactic| with_reducible apply Zpa)
local macro_rules | `(tactic| walk_at "qs8") => `(tactic| with_reducible apply Ztn)
local macro_rules | `(tactic| walk_at "qs9") => `(tactic| apply Zl7)
local macro_rules | `(tactic| walk_at "qs9") => `(tactic| assumption)
local macro_rules | `(tactic| walk_at "qs10") => `(tactic| (first | with_reducible apply Zo0.nil | with_reducible apply Zqd.cons | with_reducible apply Zqd.nil | with_reducible apply rlN | with_reducible apply Zrg | (with_reducible apply gEq); rfl | fail))
local macro_rules | `(tactic| walk_at "qs10") => `(tactic| (first | with_reducible apply Z07 | with_reducible apply Zoh | with_reducible apply Zyz | with_reducible apply Zlk | with_reducible apply Zs9 | with_reducible apply Zwn.cons | with_reducible apply Zwn.nil | with_reducible apply Zo0.cons | fail))
local macro_rules | `(tactic| walk_at "qs10") => `(tactic| (first | ((with_reducible apply kMem); decide +kernel) | with_reducible apply Zfa | with_reducible apply Zh9 | with_reducible apply Zlj | with_reducible apply Zli | with_reducible apply Zhi | with_reducible apply Zle | with_reducible apply Zf3 | fail))
local macro_rules | `(tactic| walk_at "qs10") => `(tactic| (first | ((with_reducible apply gsE); walk_at "qs2") | ((with_reducible apply gsA); walk_at "qs3") | ((with_reducible apply gsS); walk_at "qs4") | ((with_reducible apply gsO); walk_at "qs5") | ((with_reducible apply gsT); walk_at "qs6") | ((with_reducible apply gsR); walk_at "qs7") | ((with_reducible apply gsM); walk_at "qs8") | ((with_reducible apply gPo); walk_at "qs9") | fail))
local macro_rules | `(tactic| walk_at "ks") => `(tactic| ((walk_at "qs1"); all_goals repeat' (walk_at "qs10")))
local macro_rules | `(tactic| walk_at "qd1") => `(tactic| kernel_rfl)
local macro_rules | `(tactic| walk_at "qd1") => `(tactic| rfl)
local macro_rules | `(tactic| walk_at "qd1") => `(tactic| (with_reducible apply gOk; kernel_rfl))
local macro_rules | `(tactic| walk_at "qd1") => `(tactic| (with_reducible apply gSt; kernel_rfl))
local macro_rules | `(tactic| walk_at "qd2") => `(tactic| (first | with_reducible apply Z54 | with_reducible apply Z74 | with_reducible apply pe_fmt | with_reducible apply Z8z | with_reducible apply Z5y | fail))
local macro_rules | `(tactic| walk_at "qd2") => `(tactic| (first | with_reducible apply pe_and | with_reducible apply pe_one | with_reducible apply pe_un | with_reducible apply pe_slice | with_reducible apply kCT | with_reducible apply Z8w | with_reducible apply Z8x | with_reducible apply Z52 | fail))
local macro_rules | `(tactic| walk_at "qd2") => `(tactic| (first | with_reducible apply Z8u | with_reducible apply Z51 | with_reducible apply Z8v | with_reducible apply kLc | with_reducible apply pe_ifExp | with_reducible apply kGlo | with_reducible apply kBlt | with_reducible apply Z80 | fail))
local macro_rules | `(tactic| walk_at "qd2") => `(tactic| (first | with_reducible apply pe_op | with_reducible apply pe_cmpR | with_reducible apply pe_lst | with_reducible apply pe_tup | with_reducible apply Z81 | with_reducible apply pe_bl | with_reducible apply pe_non | with_reducible apply kApp | fail))
local macro_rules | `(tactic| walk_at "qd2") => `(tactic| (first | ((with_reducible apply Z53); rfl) | ((with_reducible apply Zx2); rfl) | with_reducible apply kV | with_reducible apply pe_int | with_reducible apply kFld | with_reducible apply pe_ix | with_reducible apply Zj0 | with_reducible apply kCB | fail))
local macro_rules | `(tactic| walk_at "qd3") => `(tactic| with_reducible apply StX.pa_star)
local macro_rules | `(tactic| walk_at "qd3") => `(tactic| with_reducible apply pa_nil)
local macro_rules | `(tactic| walk_at "qd3") => `(tactic| with_reducible apply pa_cons)
local macro_rules | `(tactic| walk_at "qd4") => `(tactic| with_reducible apply pss_nil)
local macro_rules | `(tactic| walk_at "qd4") => `(tactic| with_reducible apply pss_cons)
local macro_rules | `(tactic| walk_at "qd4") => `(tactic| with_reducible apply pss_one)
local macro_rules | `(tactic| walk_at "qd5") => `(tactic| (first | with_reducible apply kStF | with_reducible apply Z8t | with_reducible apply kAug | with_reducible apply Cl.ps_never | with_reducible apply ps_try_thru0 | fail))
local macro_rules | `(tactic| walk_at "qd5") => `(tactic| (first | ((with_reducible apply Z5z); rfl) | ((with_reducible apply Z19); rfl) | with_reducible apply kSet | with_reducible apply ps_ret | with_reducible apply ps_if | with_reducible apply ps_expr | with_reducible apply ps_for | with_reducible apply ps_asg | fail))
local macro_rules | `(tactic| walk_at "qd6") => `(tactic| with_reducible apply pt_chain)
local macro_rules | `(tactic| walk_at "qd6") => `(tactic| with_reducible apply kPw)
local macro_rules | `(tactic| walk_at "qd6") => `(tactic| with_reducible apply pt_not)
local macro_rules | `(tactic| walk_at "qd6") => `(tactic| with_reducible apply kTru)
local macro_rules | `(tactic| walk_at "qd6") => `(tactic| with_reducible apply pt_cmpR)
local macro_rules | `(tactic| walk_at "qd7") => `(tactic| first | exact Or.inr rfl | fail)
local macro_rules | `(tactic| walk_at "qd7") => `(tactic| first | exact Or.inl rfl | fail)
local macro_rules | `(tactic| walk_at "qd8") => `(tactic| first | exact Or.inr (Or.inr rfl) | fail)
local macro_rules | `(tactic| walk_at "qd8") => `(tactic| first | exact Or.inr (Or.inl rfl) | fail)
local macro_rules | `(tactic| walk_at "qd8") => `(tactic| first | exact Or.inl rfl | fail)
local macro_rules | `(tactic| walk_at "qd9") => `(tactic| first | exact Or.inr rfl | fail)
local macro_rules | `(tactic| walk_at "qd9") => `(tactic| first | exact Or.inl rfl | fail)
local macro_rules | `(tactic| walk_at "qd10") => `(tactic| first | exact passes_call (takes_of rfl rfl rfl rfl) (fun _ _ _ _ h => h) | fail)
local macro_rules | `(tactic| walk_at "qd10") => `(tactic| first | exact passL | fail)
local macro_rules | `(tactic| walk_at "qd11") => `(tactic| first | exact hu1 (by assumption) | fail)
local macro_rules | `(tactic| walk_at "qd11") => `(tactic| first | exact hu65 (by assumption) | fail)
local macro_rules | `(tactic| walk_at "qd11") => `(tactic| first | exact hu64 (by assumption) | fail)
local macro_rules | `(tactic| walk_at "qd12") => `(tactic| first | exact ⟨_, rfl⟩ | fail)
local macro_rules | `(tactic| walk_at "qd12") => `(tactic| rfl)
local macro_rules | `(tactic| walk_at "qd13") => `(tactic| first | exact PassesOwn.never | fail)
local macro_rules | `(tactic| walk_at "qd13") => `(tactic| first | exact PassesOwn.leaving | fail)
local macro_rules | `(tactic| walk_at "qd14") => `(tactic| (first | with_reducible apply Z2a | with_reducible apply Zx1 | fail))
local macro_rules | `(tactic| walk_at "qd14") => `(tactic| (first | with_reducible apply Zug | with_reducible apply Z1o | with_reducible apply Z78 | with_reducible apply Z4o | with_reducible apply Z4p | with_reducible apply Z4r | with_reducible apply Z4m | with_reducible apply kNeI | fail))
local macro_rules | `(tactic| walk_at "qd14") => `(tactic| (first | with_reducible apply kEq | with_reducible apply Z75 | with_reducible apply kNe | with_reducible apply Z76 | with_reducible apply Zxi | with_reducible apply kIn | with_reducible apply Z4q | with_reducible apply Z50 | fail))
local macro_rules | `(tactic| walk_at "qd15") => `(tactic| with_reducible apply Z6p)
local macro_rules | `(tactic| walk_at "qd15") => `(tactic| with_reducible apply Z8y)
local macro_rules | `(tactic| walk_at "qd15") => `(tactic| with_reducible apply Z2u)
local macro_rules | `(tactic| walk_at "qd15") => `(tactic| with_reducible apply Zsm)
local macro_rules | `(tactic| walk_at "qd15") => `(tactic| with_reducible apply Zyi)
local macro_rules | `(tactic| walk_at "qd15") => `(tactic| with_reducible apply Z2w)
local macro_rules | `(tactic| walk_at "qd15") => `(tactic| with_reducible apply Z6r)
local macro_rules | `(tactic| walk_at "qd15") => `(tactic| with_reducible apply Zmw)
local macro_rules | `(tactic| walk_at "qd16") => `(tactic| (first | ((with_reducible apply gFa2); (intro _ _; kernel_rfl)) | ((with_reducible apply gAll); intro _ _ _ _ _) | fail))
local macro_rules | `(tactic| walk_at "qd16") => `(tactic| (first | with_reducible apply Z4n | with_reducible apply Zab | with_reducible apply kIxT | ((with_reducible apply gOp); walk_at "qd14") | ((with_reducible apply gCa); walk_at "qd15") | first | with_reducible exact kHm | fail | first | exact gn1 (by decide +kernel) | fail | ((with_reducible apply gFa); (intro _; kernel_rfl)) | fail))
local macro_rules | `(tactic| walk_at "qd16") => `(tactic| (first | with_reducible apply po_some | with_reducible apply po_none | with_reducible apply pg_sub | with_reducible apply set_list | with_reducible apply pk_cons | with_reducible apply pk_nil | with_reducible apply Z67 | with_reducible apply sl_tup | fail))
local macro_rules | `(tactic| walk_at "qd16") => `(tactic| (first | with_reducible apply kRg1 | with_reducible apply pi_str | with_reducible apply pi_tup | with_reducible apply pts_nil | with_reducible apply pts_one | with_reducible apply PJ.cons | with_reducible apply PJ.nil | with_reducible apply PCs.cons | fail))
local macro_rules | `(tactic| walk_at "qd16") => `(tactic| (first | first | with_reducible exact gNL | fail | ((with_reducible apply gPx); (intro _ _; kernel_rfl)) | with_reducible apply pw_and | with_reducible apply pw_and1 | with_reducible apply pw_or | with_reducible apply pw_or1 | with_reducible apply kGn | with_reducible apply pi_list | fail))
local macro_rules | `(tactic| walk_at "qd16") => `(tactic| (first | ((with_reducible apply gPas); walk_at "qd10") | ((with_reducible apply gNe); decide +kernel) | (first | ((with_reducible apply gTak); exact takes_of rfl rfl rfl rfl) | fail) | ((with_reducible apply gNd); assumption) | (first | ((with_reducible apply gM2); exact ⟨rfl, rfl, rfl, rfl⟩) | fail) | ((with_reducible apply gLt); walk_at "qd11") | ((with_reducible apply gRl); walk_at "qd12") | ((with_reducible apply gPO); walk_at "qd13") | fail))
local macro_rules | `(tactic| walk_at "qd16") => `(tactic| (first | ((with_reducible apply gPS); walk_at "qd5") | ((with_reducible apply gPT); walk_at "qd6") | ((with_reducible apply gOr); walk_at "qd7") | ((with_reducible apply gVis); walk_at "qd8") | ((with_reducible apply gLoc); walk_at "qd9") | ((with_reducible apply gGl); kernel_rfl) | ((with_reducible apply Z85); assumption) | ((with_reducible apply gLe); decide) | fail))
local macro_rules | `(tactic| walk_at "qd16") => `(tactic| (first | ((with_reducible apply gBt); kernel_rfl) | ((with_reducible apply gBf); first | kernel_rfl) | ((with_reducible apply gLe2); kernel_rfl) | ((with_reducible apply gOs); kernel_rfl) | ((with_reducible apply gEq); walk_at "qd1") | ((with_reducible apply gPE); walk_at "qd2") | ((with_reducible apply gPA); walk_at "qd3") | ((with_reducible apply gPSs); walk_at "qd4") | fail))
local macro_rules | `(tactic| walk_at "kd") => `(tactic| repeat' (walk_at "qd16"))
local macro_rules | `(tactic| walk_at "sc") => `(tactic| exact ⟨rfl, rfl, rfl, by decide +kernel, rfl, by decide +kernel, by decide +kernel⟩)
local macro_rules | `(tactic| walk_at "b1") => `(tactic| exact fun _ _ _ _ _ _ us hl => match us, hl with | [_], _ => rfl)
local macro_rules | `(tactic| walk_at "b2") => `(tactic| exact fun _ _ _ _ _ _ us hl => match us, hl with | [_, _], _ => rfl)
local macro_rules | `(tactic| walk_at "b3") => `(tactic| exact fun _ _ _ _ _ _ us hl => match us, hl with | [_, _, _], _ => rfl)
local macro_rules | `(tactic| walk_at "b4") => `(tactic| exact fun _ _ _ _ _ _ us hl => match us, hl with | [_, _, _, _], _ => rfl)
local macro_rules | `(tactic| walk_at "b5") => `(tactic| exact fun _ _ _ _ _ _ us hl => match us, hl with | [_, _, _, _, _], _ => rfl)
local macro_rules | `(tactic| walk_at "b6") => `(tactic| exact fun _ _ _ _ _ _ us hl => match us, hl with | [_, _, _, _, _, _], _ => rfl)
local macro_rules | `(tactic| walk_at "b7") => `(tactic| exact fun _ _ _ _ _ _ us hl => match us, hl with | [_, _, _, _, _, _, _], _ => rfl)
local macro_rules | `(tactic| walk_at "b8") => `(tactic| exact fun _ _ _ _ _ _ us hl => match us, hl with | [_, _, _, _, _, _, _, _], _ => rfl)
local macro_rules | `(tactic| walk_at "k2") => `(tactic| ((first | (with_reducible apply Zko) | apply pss_one | apply pss_cons); all_goals walk_at "kd"))
local macro_rules | `(tactic| walk_at "kk") => `(tactic| first | (intro _ _ _ _ _ _ _ _ _ _ _ hpo; haveI := SmX.mk hpo; refine exSf ?_; walk_at "k2") | (intro _ _ _ _ _ _ _ _ _ _ _ _; apply exS; walk_at "ks"; (case' h2 => (first | (with_reducible apply Zko) | apply pss_one | apply pss_cons)); all_goals walk_at "kd"))
class FT (w : outParam World) (K : outParam PySem.W.Frag) (mg : outParam (Str → Option Value)) : Prop where
 t : Facts w K mg
section
variable {w : World} {K : PySem.W.Frag} {mg : Str → Option Value} {base : Heap} [T : FT w K mg]
instance : KGl mg "Add" (some (.ref (ga K "Add"))) := ⟨(T.t.g 0 rfl)⟩
instance : KGl mg "Alphabet" (some (.ref (ga K "Alphabet"))) := ⟨(T.t.g 1 rfl)⟩
instance : KGl mg "BadAlphabet" (some (.ref (ga K "BadAlphabet"))) := ⟨(T.t.g 2 rfl)⟩
instance : KGl mg "BadStage" (some (.ref (ga K "BadStage"))) := ⟨(T.t.g 4 rfl)⟩
instance : KGl mg "Drop" (some (.ref (ga K "Drop"))) := ⟨(T.t.g 6 rfl)⟩
instance : KGl mg "LastDrop" (some (.ref (ga K "LastDrop"))) := ⟨(T.t.g 7 rfl)⟩
instance : KGl mg "Lot" (some (.ref (ga K "Lot"))) := ⟨(T.t.g 8 rfl)⟩
instance : KGl mg "NUMBERS" (some (.ref (ga K "NUMBERS"))) := ⟨(T.t.g 10 rfl)⟩
instance : KGl mg "Once" (some (.ref (ga K "Once"))) := ⟨(T.t.g 11 rfl)⟩
instance : KGl mg "Rule" (some (.ref (ga K "Rule"))) := ⟨(T.t.g 12 rfl)⟩
instance : KGl mg "TooMany" (some (.ref (ga K "TooMany"))) := ⟨(T.t.g 13 rfl)⟩
instance : KGl mg "Write" (some (.ref (ga K "Write"))) := ⟨(T.t.g 14 rfl)⟩
instance : KNb mg "int" (.type "int") := ⟨(T.t.n 25 rfl), by decide +kernel⟩
instance : KNb mg "isinstance" (.builtin "isinstance") := ⟨(T.t.n 26 rfl), by decide +kernel⟩
instance : KNb mg "len" (.builtin "len") := ⟨(T.t.n 27 rfl), by decide +kernel⟩
instance : KNb mg "list" (.type "list") := ⟨(T.t.n 28 rfl), by decide +kernel⟩
instance : KNb mg "range" (.type "range") := ⟨(T.t.n 29 rfl), by decide +kernel⟩
instance : KNb mg "set" (.type "set") := ⟨(T.t.n 30 rfl), by decide +kernel⟩
instance : KNb mg "sorted" (.builtin "sorted") := ⟨(T.t.n 31 rfl), by decide +kernel⟩
instance : KNb mg "str" (.type "str") := ⟨(T.t.n 32 rfl), by decide +kernel⟩
instance : KMk K .Drop (fAd K ("Drop", some "__init__")) := ⟨(T.t.mk' 79 rfl)⟩
instance : KMk K .LastDrop (fAd K ("LastDrop", some "__init__")) := ⟨(T.t.mk' 80 rfl)⟩
instance : KMk K .Add (fAd K ("Add", some "__init__")) := ⟨(T.t.mk' 81 rfl)⟩
instance : KMk K .Once (fAd K ("Once", some "__init__")) := ⟨(T.t.mk' 82 rfl)⟩
instance : KMk K .Write (fAd K ("Write", some "__init__")) := ⟨(T.t.mk' 83 rfl)⟩
instance : KMk K .Rule (fAd K ("Rule", some "__init__")) := ⟨(T.t.mk' 84 rfl)⟩
instance : KMk K .Lot (fAd K ("Lot", some "__init__")) := ⟨(T.t.mk' 85 rfl)⟩
instance : KMk K .Alphabet (fAd K ("Alphabet", some "__init__")) := ⟨(T.t.mk' 86 rfl)⟩
instance : KSp K .Alphabet "__eq__" (fAd K ("Alphabet", some "__eq__")) := ⟨(T.t.me 87 rfl)⟩
instance : KSp K .Lot "__len__" (fAd K ("Lot", some "__len__")) := ⟨(T.t.me 88 rfl)⟩
instance : KGl mg "SMALL" (some (.str (S [97, 98, 99, 100, 101, 102, 103, 104, 105, 106, 107, 108, 109, 110, 111, 112, 113, 114, 115, 116, 117, 118, 119, 120, 121, 122]) (T.t.s 89 rfl).choose)) := ⟨(T.t.s 89 rfl).choose_spec⟩
instance : KGl mg "SEPARATOR" (some (.str (S [59, 32]) (T.t.s 90 rfl).choose)) := ⟨(T.t.s 90 rfl).choose_spec⟩
instance : KGl mg "EMPTY" (some (.str (S [107, 101, 101, 112]) (T.t.s 91 rfl).choose)) := ⟨(T.t.s 91 rfl).choose_spec⟩
instance : KGl mg "DEEPEST" (some (.int (3) (T.t.int 93 rfl).choose)) := ⟨(T.t.int 93 rfl).choose_spec⟩
instance : KCv K mg "Alphabet" "JOINT" (sv [45]) := ⟨_, (T.t.g 1 rfl), (T.t.cr 0 rfl), (T.t.cv 0 rfl)⟩
instance : KCv K mg "Alphabet" "MOST" (.int 8) := ⟨_, (T.t.g 1 rfl), (T.t.cr 0 rfl), (T.t.cv 1 rfl)⟩
instance : KCv K mg "Rule" "MOST" (.int 4) := ⟨_, (T.t.g 12 rfl), (T.t.cr 2 rfl), (T.t.cv 2 rfl)⟩
instance : KCv K mg "Lot" "MOST" (.int 200) := ⟨_, (T.t.g 8 rfl), (T.t.cr 1 rfl), (T.t.cv 3 rfl)⟩
instance : KNe K .Alphabet := ⟨(T.t.ne 0 rfl)⟩
instance : KTb K w NUMS "NUMBERS" := ⟨(T.t.tb 0 rfl rfl)⟩
theorem csok (T : Facts w K mg) : CsOk K cs_ := by
 refine ⟨fun c h => ?_, fun c h f hf => ?_⟩
 ·simp only [cs_, Qg, Qn, or_false] at h
  rcases h with rfl | rfl | rfl | rfl | rfl | rfl | rfl | rfl
  ·exact (T.cl 71 rfl)
  ·exact (T.cl 72 rfl)
  ·exact (T.cl 73 rfl)
  ·exact (T.cl 74 rfl)
  ·exact (T.cl 75 rfl)
  ·exact (T.cl 76 rfl)
  ·exact (T.cl 77 rfl)
  ·exact (T.cl 78 rfl)
 ·simp only [cs_, Qg, Qn, or_false] at h
  rcases h with rfl | rfl | rfl | rfl | rfl | rfl | rfl | rfl
  ·simp only [Cn.flds, Qg, Qn, or_false] at hf
   rcases hf with rfl | rfl | rfl | rfl
   ·exact (T.no 44 rfl)
   ·exact (T.no 45 rfl)
   ·exact (T.no 46 rfl)
   ·exact (T.no 47 rfl)
  ·simp only [Cn.flds, Qg, Qn, or_false] at hf
   rcases hf with rfl | rfl | rfl | rfl | rfl
   ·exact (T.no 48 rfl)
   ·exact (T.no 49 rfl)
   ·exact (T.no 50 rfl)
   ·exact (T.no 51 rfl)
   ·exact (T.no 52 rfl)
  ·simp only [Cn.flds, Qg, Qn, or_false] at hf
   rcases hf with rfl | rfl | rfl | rfl | rfl
   ·exact (T.no 53 rfl)
   ·exact (T.no 54 rfl)
   ·exact (T.no 55 rfl)
   ·exact (T.no 56 rfl)
   ·exact (T.no 57 rfl)
  ·simp only [Cn.flds, Qg, Qn, or_false] at hf
   rcases hf with rfl | rfl | rfl | rfl
   ·exact (T.no 58 rfl)
   ·exact (T.no 59 rfl)
   ·exact (T.no 60 rfl)
   ·exact (T.no 61 rfl)
  ·simp only [Cn.flds, Qg, Qn, or_false] at hf
   rcases hf with rfl | rfl | rfl
   ·exact (T.no 62 rfl)
   ·exact (T.no 63 rfl)
   ·exact (T.no 64 rfl)
  ·simp only [Cn.flds, Qg, Qn, or_false] at hf
   rcases hf with rfl | rfl
   ·exact (T.no 65 rfl)
   ·exact (T.no 66 rfl)
  ·simp only [Cn.flds, Qg, Qn, or_false] at hf
   rcases hf with rfl | rfl
   ·exact (T.no 67 rfl)
   ·exact (T.no 68 rfl)
  ·simp only [Cn.flds, Qg, Qn, or_false] at hf
   rcases hf with rfl | rfl
   ·exact (T.no 69 rfl)
   ·exact (T.no 70 rfl)
instance : KCs K cs_ := ⟨csok T.t⟩
instance : KIn .Alphabet cs_ := ⟨by decide⟩
instance : KIn .Drop cs_ := ⟨by decide⟩
instance : KIn .LastDrop cs_ := ⟨by decide⟩
instance : KIn .Write cs_ := ⟨by decide⟩
instance : KIn .Once cs_ := ⟨by decide⟩
instance : KIn .Add cs_ := ⟨by decide⟩
instance : KIn .Rule cs_ := ⟨by decide⟩
instance : KIn .Lot cs_ := ⟨by decide⟩
theorem Zpk (T : Facts w K mg) {c0 : CS} {M0 : Mem} : SimR ⟨K, cs_, c0, M0⟩ (zIsi K) (uIsi Zel (.cls .Alphabet)) :=
 Zyw (fun _ => rfl) (fun _ _ h => h) (.own _) (csok T) (fun k hk h => by simp only [cs_, Qg, Qn, or_false] at hk; rcases hk with rfl | rfl | rfl | rfl | rfl | rfl | rfl | rfl <;> first | exact (T.ic 0 rfl) | exact absurd h (by decide)) (fun k b hk h => by cases k with | t n => (cases h; done) | c n => (have hm := hk n rfl; simp only [cs_, Qg, Qn, or_false] at hm; rcases hm with rfl | rfl | rfl | rfl | rfl | rfl | rfl | rfl <;> first | (cases h; done) | (cases h; first | exact (T.kc 0 rfl))))
instance : KIs K cs_ Zel (.cls .Alphabet) := ⟨Zpk T.t⟩
theorem Z1c (T : Facts w K mg) {c0 : CS} {M0 : Mem} : SimR ⟨K, cs_, c0, M0⟩ (zIsi K) (uIsi Zk3 (.ty "list")) :=
 Zyw (fun _ => rfl) (fun _ _ h => h) (.ty _) (csok T) (fun k hk h => by simp only [cs_, Qg, Qn, or_false] at hk; rcases hk with rfl | rfl | rfl | rfl | rfl | rfl | rfl | rfl <;> first | exact (T.ic 0 rfl) | exact absurd h (by decide)) (fun k b hk h => by cases k with | c n => cases h | t n => (by_cases e : n = "list"; (subst e; cases (show some true = some b from h); exact (T.kt 0 rfl)); (exact absurd h (by show ¬ ((if n = "list" then some true else none) = some b); rw [if_neg e]; simp))))
instance : KIs K cs_ Zk3 (.ty "list") := ⟨Z1c T.t⟩
theorem Zna (T : Facts w K mg) : ∀ k ∈ cs_, subC .Drop k = true → Sup K (ga K k.str) (ga K "Drop") "__init__" (fAd K ("Stage", some "__init__")) := by
 intro k hk h
 simp only [cs_, Qg, Qn, or_false] at hk
 rcases hk with rfl | rfl | rfl | rfl | rfl | rfl | rfl | rfl
 ·exact absurd h (by decide)
 ·exact (T.su 0 rfl)
 ·exact (T.su 1 rfl)
 ·exact absurd h (by decide)
 ·exact absurd h (by decide)
 ·exact absurd h (by decide)
 ·exact absurd h (by decide)
 ·exact absurd h (by decide)
theorem Zg0 (T : Facts w K mg) : ∀ k ∈ cs_, subC .LastDrop k = true → Sup K (ga K k.str) (ga K "LastDrop") "__init__" (fAd K ("Drop", some "__init__")) := by
 intro k hk h
 simp only [cs_, Qg, Qn, or_false] at hk
 rcases hk with rfl | rfl | rfl | rfl | rfl | rfl | rfl | rfl
 ·exact absurd h (by decide)
 ·exact absurd h (by decide)
 ·exact (T.su 2 rfl)
 ·exact absurd h (by decide)
 ·exact absurd h (by decide)
 ·exact absurd h (by decide)
 ·exact absurd h (by decide)
 ·exact absurd h (by decide)
theorem Zgz (T : Facts w K mg) : ∀ k ∈ cs_, subC .LastDrop k = true → Sup K (ga K k.str) (ga K "LastDrop") "text" (fAd K ("Drop", some "text")) := by
 intro k hk h
 simp only [cs_, Qg, Qn, or_false] at hk
 rcases hk with rfl | rfl | rfl | rfl | rfl | rfl | rfl | rfl
 ·exact absurd h (by decide)
 ·exact absurd h (by decide)
 ·exact (T.su 3 rfl)
 ·exact absurd h (by decide)
 ·exact absurd h (by decide)
 ·exact absurd h (by decide)
 ·exact absurd h (by decide)
 ·exact absurd h (by decide)
theorem Zk6 (T : Facts w K mg) : ∀ k ∈ cs_, subC .Write k = true → Sup K (ga K k.str) (ga K "Write") "__init__" (fAd K ("Stage", some "__init__")) := by
 intro k hk h
 simp only [cs_, Qg, Qn, or_false] at hk
 rcases hk with rfl | rfl | rfl | rfl | rfl | rfl | rfl | rfl
 ·exact absurd h (by decide)
 ·exact absurd h (by decide)
 ·exact absurd h (by decide)
 ·exact (T.su 4 rfl)
 ·exact absurd h (by decide)
 ·exact absurd h (by decide)
 ·exact absurd h (by decide)
 ·exact absurd h (by decide)
theorem Zm9 (T : Facts w K mg) : ∀ k ∈ cs_, subC .Once k = true → Sup K (ga K k.str) (ga K "Once") "__init__" (fAd K ("Stage", some "__init__")) := by
 intro k hk h
 simp only [cs_, Qg, Qn, or_false] at hk
 rcases hk with rfl | rfl | rfl | rfl | rfl | rfl | rfl | rfl
 ·exact absurd h (by decide)
 ·exact absurd h (by decide)
 ·exact absurd h (by decide)
 ·exact absurd h (by decide)
 ·exact (T.su 5 rfl)
 ·exact absurd h (by decide)
 ·exact absurd h (by decide)
 ·exact absurd h (by decide)
theorem Zo7 (T : Facts w K mg) : ∀ k ∈ cs_, subC .Add k = true → Sup K (ga K k.str) (ga K "Add") "__init__" (fAd K ("Stage", some "__init__")) := by
 intro k hk h
 simp only [cs_, Qg, Qn, or_false] at hk
 rcases hk with rfl | rfl | rfl | rfl | rfl | rfl | rfl | rfl
 ·exact absurd h (by decide)
 ·exact absurd h (by decide)
 ·exact absurd h (by decide)
 ·exact absurd h (by decide)
 ·exact absurd h (by decide)
 ·exact (T.su 6 rfl)
 ·exact absurd h (by decide)
 ·exact absurd h (by decide)
theorem Zeq : FnScope Zfv ["self", "part"] (defScope Zem) := ⟨rfl, rfl, rfl, by decide +kernel, rfl, by decide +kernel, by decide +kernel⟩
theorem Zez (T : Facts w K mg) : Binds K (fdOf K ("BadAlphabet", some "__init__")) ["self", "part"] [] := (T.F 0 rfl).bindsN fun _ _ _ _ _ _ us hl => match us, hl with | [_, _], _ => rfl
theorem Zes (T : Facts w K mg) : FnOk PP w K mg base (L2.CX PP w) 1 (fAd K ("BadAlphabet", some "__init__")) (fdOf K ("BadAlphabet", some "__init__")) ["self", "part"] (Zeo K) := by
 refine (T.F 0 rfl).ok Zeq (fun vs H Q E h => Zu0 vs H Q E h) (fun cdv A outer s H vs Q E hr h => ⟨Ze5 PP w K, PSs.nox ?_, Zpp (T.xc 0 rfl).o (T.no 39 rfl) vs H Q E h⟩)
 exact pss_cons (ps_expr (Zhm rfl (T.g 5 rfl) (T.bi 0 rfl).s (T.bi 0 rfl).t (T.bi 0 rfl).r (T.bi 0 rfl).v (pa_cons (pv 0) (pa_cons (Zj0 (by decide +kernel)) pa_nil)))) (pss_one (ps_ost (pv 0) (pv 1)))
instance : KXc PP w K mg base .BadAlphabet (spX1 (ga K (Cn.str .BadAlphabet)) (Fd.str .part)) (fAd K ("BadAlphabet", some "__init__")) (fdOf K ("BadAlphabet", some "__init__")) ["self", "part"] := ⟨(T.t.xc 0 rfl), (T.t.i 35 rfl), (T.t.ti 35 rfl), Zes T.t, Zez T.t⟩
theorem Zg6 : FnScope Zjk ["self", "what"] (defScope Zg3) := ⟨rfl, rfl, rfl, by decide +kernel, rfl, by decide +kernel, by decide +kernel⟩
theorem Zbk (T : Facts w K mg) : Binds K (fdOf K ("BadStage", some "__init__")) ["self", "what"] [] := (T.F 1 rfl).bindsN fun _ _ _ _ _ _ us hl => match us, hl with | [_, _], _ => rfl
theorem Zbj (T : Facts w K mg) : FnOk PP w K mg base (L2.CX PP w) 1 (fAd K ("BadStage", some "__init__")) (fdOf K ("BadStage", some "__init__")) ["self", "what"] (Zbh K) := by
 refine (T.F 1 rfl).ok Zg6 (fun vs H Q E h => Zu0 vs H Q E h) (fun cdv A outer s H vs Q E hr h => ⟨Zhy PP w K, PSs.nox ?_, Zpp (T.xc 1 rfl).o (T.no 40 rfl) vs H Q E h⟩)
 exact pss_cons (ps_expr (Zhm rfl (T.g 5 rfl) (T.bi 0 rfl).s (T.bi 0 rfl).t (T.bi 0 rfl).r (T.bi 0 rfl).v (pa_cons (pv 0) (pa_cons (Zj0 (by decide +kernel)) pa_nil)))) (pss_one (ps_ost (pv 0) (pv 1)))
instance : KXc PP w K mg base .BadStage (spX1 (ga K (Cn.str .BadStage)) (Fd.str .what)) (fAd K ("BadStage", some "__init__")) (fdOf K ("BadStage", some "__init__")) ["self", "what"] := ⟨(T.t.xc 1 rfl), (T.t.i 36 rfl), (T.t.ti 36 rfl), Zbj T.t, Zbk T.t⟩
instance : KFn PP w K mg base cs_ Za8 1 (some "all_different") (fAd K ("all_different", none)) (fdOf K ("all_different", none)) ["text"] := ⟨fnA (N := Zji) (T.t.F 2 rfl) (by walk_at "sc") Zet Zf6 (r := fun _ => Za4) (by delta Za4; walk_at "kk"), kbN (T.t.F 2 rfl) (by walk_at "b1"), (T.t.F 2 rfl).kp, fun | _, rfl => (T.t.g 20 rfl)⟩
theorem Zhf (T : Facts w K mg) : Binds K (fdOf K ("Alphabet", some "__init__")) ["self", "letters", "vowels"] [] := by
 obtain ⟨ds, h1, h2⟩ := (T.F 3 rfl).binds1 (ps := ["self", "letters", "vowels"]) 3 1 (Lv _ _) rfl (fun T' kV doc pm an cdv ct us its hu hi => match us, hu, its, hi with | [_, _, _], _, [_], _ => ⟨_, rfl, rfl⟩)
 cases h1
 exact h2
instance : KFn PP w K mg base cs_ Zaw 3 none (fAd K ("Alphabet", some "__init__")) (fdOf K ("Alphabet", some "__init__")) ["self", "letters", "vowels"] := ⟨fnK (N := Zjl) (T.t.F 3 rfl) (by walk_at "sc") Zew Zf9 (r := Za7) (by delta Za7; walk_at "kk"), Zhf T.t, (T.t.F 3 rfl).kp, fun _ h => nomatch h⟩
instance : KFk PP w K mg base cs_ Zaw 3 (fAd K ("Alphabet", some "__init__")) (fdOf K ("Alphabet", some "__init__")) ["self", "letters", "vowels"] 2 ["vowels"] := ⟨KFn.ok, (FunD.kbindsD (T.t.F 3 rfl) 2 ["vowels"] (fun us _ ws => us ++ ws) (Lv _ _) (fun a _ c => a.append c) (fun T' kV doc pm an cdv ct us its ws hu hi hw => match us, hu, its, hi, ws, hw with | [_, _], _, [_], _, [_], _ => ⟨_, rfl, rfl⟩)).choose_spec⟩
instance : KFn PP w K mg base cs_ Zaj 1 none (fAd K ("Alphabet", some "is_word")) (fdOf K ("Alphabet", some "is_word")) ["self", "text"] := ⟨fnA (N := Zfx) (T.t.F 4 rfl) (by walk_at "sc") Zdq Zef (r := fun _ => Zap) (by delta Zap; walk_at "kk"), kbN (T.t.F 4 rfl) (by walk_at "b2"), (T.t.F 4 rfl).kp, fun _ h => nomatch h⟩
instance : KMe PP w K mg base cs_ .Alphabet Zaj "is_word" 1 := ⟨⟨(T.t.cl 71 rfl), _, _, _, _, (T.t.mb 0 rfl), KFn.ok, KFn.bi (P := PP) (w := w) (mg := mg) (base := base) (cs := cs_) (g := Zaj), .nil⟩⟩
instance : KHm Zbe "is_word" := ⟨Zgi⟩
instance : KMo PP w K mg base cs_ Zbe "is_word" 1 := ⟨by rintro C sp ⟨k, hk, rfl, q, hg, rfl⟩; cases k <;> first | (cases hg; done) | (cases hg; exact kme (by decide)) | exact absurd hk (by decide)⟩
theorem Zkp (T : Facts w K mg) : ∀ C sp, okM K cs_ Zbe C sp → Zjm PP w K mg base (L2.CX PP w) 1 "is_word" C sp [] := haveI : FT w K mg := ⟨T⟩; KMo.ok
instance : KFn PP w K mg base cs_ Zac 3 none (fAd K ("Alphabet", some "listed_members")) (fdOf K ("Alphabet", some "listed_members")) ["self", "name"] := ⟨fnA (N := Zc4) (T.t.F 5 rfl) (by walk_at "sc") Zb7 Zcg (r := Zag) (by delta Zag; walk_at "kk"), kbN (T.t.F 5 rfl) (by walk_at "b2"), (T.t.F 5 rfl).kp, fun _ h => nomatch h⟩
instance : KMe PP w K mg base cs_ .Alphabet Zac "listed_members" 3 := ⟨⟨(T.t.cl 71 rfl), _, _, _, _, (T.t.mb 1 rfl), KFn.ok, KFn.bi (P := PP) (w := w) (mg := mg) (base := base) (cs := cs_) (g := Zac), .nil⟩⟩
instance : KHm Zbd "listed_members" := ⟨Zgh⟩
instance : KMo PP w K mg base cs_ Zbd "listed_members" 3 := ⟨by rintro C sp ⟨k, hk, rfl, q, hg, rfl⟩; cases k <;> first | (cases hg; done) | (cases hg; exact kme (by decide)) | exact absurd hk (by decide)⟩
instance : KFn PP w K mg base cs_ Zai 4 none (fAd K ("Alphabet", some "members")) (fdOf K ("Alphabet", some "members")) ["self", "name"] := ⟨fnA (N := Zfw) (T.t.F 6 rfl) (by walk_at "sc") Zdp Zee (r := Zao) (by delta Zao; walk_at "kk"), kbN (T.t.F 6 rfl) (by walk_at "b2"), (T.t.F 6 rfl).kp, fun _ h => nomatch h⟩
instance : KMe PP w K mg base cs_ .Alphabet Zai "members" 4 := ⟨⟨(T.t.cl 71 rfl), _, _, _, _, (T.t.mb 2 rfl), KFn.ok, KFn.bi (P := PP) (w := w) (mg := mg) (base := base) (cs := cs_) (g := Zai), .nil⟩⟩
theorem Zid : FnScope Zkc ["self", "stage", "what"] (defScope Zh1) := ⟨rfl, rfl, rfl, by decide +kernel, rfl, by decide +kernel, by decide +kernel⟩
theorem Zjg (T : Facts w K mg) : Binds K (fdOf K ("BadRule", some "__init__")) ["self", "stage", "what"] [] := (T.F 7 rfl).bindsN fun _ _ _ _ _ _ us hl => match us, hl with | [_, _, _], _ => rfl
theorem Zil (T : Facts w K mg) : FnOk PP w K mg base (L2.CX PP w) 1 (fAd K ("BadRule", some "__init__")) (fdOf K ("BadRule", some "__init__")) ["self", "stage", "what"] (Zdw K) := by
 refine (T.F 7 rfl).ok Zid (fun vs H Q E h => Z40 vs H Q E h) (fun cdv A outer s H vs Q E hr h => ⟨Zjo PP w K, PSs.nox ?_, Z1l (T.xc 3 rfl).o (T.no 42 rfl) (T.no 41 rfl) vs H Q E h⟩)
 exact pss_cons (ps_expr (Zhm rfl (T.g 5 rfl) (T.bi 0 rfl).s (T.bi 0 rfl).t (T.bi 0 rfl).r (T.bi 0 rfl).v (pa_cons (pv 0) (pa_cons (Zj0 (by decide +kernel)) pa_nil)))) (pss_cons (ps_ost (pv 0) (pv 1)) (pss_one (ps_ost (pv 0) (pv 2))))
theorem Zic : FnScope Zkb ["self", "number"] (defScope Zh0) := ⟨rfl, rfl, rfl, by decide +kernel, rfl, by decide +kernel, by decide +kernel⟩
theorem Zjf (T : Facts w K mg) : Binds K (fdOf K ("TooMany", some "__init__")) ["self", "number"] [] := (T.F 8 rfl).bindsN fun _ _ _ _ _ _ us hl => match us, hl with | [_, _], _ => rfl
theorem Zik (T : Facts w K mg) : FnOk PP w K mg base (L2.CX PP w) 1 (fAd K ("TooMany", some "__init__")) (fdOf K ("TooMany", some "__init__")) ["self", "number"] (Zh4 K) := by
 refine (T.F 8 rfl).ok Zic (fun vs H Q E h => Zu0 vs H Q E h) (fun cdv A outer s H vs Q E hr h => ⟨Zjn PP w K, PSs.nox ?_, Zpp (T.xc 4 rfl).o (T.no 43 rfl) vs H Q E h⟩)
 exact pss_cons (ps_expr (Zhm rfl (T.g 5 rfl) (T.bi 0 rfl).s (T.bi 0 rfl).t (T.bi 0 rfl).r (T.bi 0 rfl).v (pa_cons (pv 0) (pa_cons (Zj0 (by decide +kernel)) pa_nil)))) (pss_one (ps_ost (pv 0) (pv 1)))
instance : KXc PP w K mg base .TooMany (spX1 (ga K (Cn.str .TooMany)) (Fd.str .number)) (fAd K ("TooMany", some "__init__")) (fdOf K ("TooMany", some "__init__")) ["self", "number"] := ⟨(T.t.xc 4 rfl), (T.t.i 38 rfl), (T.t.ti 38 rfl), Zik T.t, Zjf T.t⟩
instance : KFn PP w K mg base cs_ Zar 1 none (fAd K ("Alphabet", some "__eq__")) (fdOf K ("Alphabet", some "__eq__")) ["self", "other"] := ⟨fnA (N := Zm2) (T.t.F 9 rfl) (by walk_at "sc") Zgd Zif (r := fun _ => Zbt) (by delta Zbt; walk_at "kk"), kbN (T.t.F 9 rfl) (by walk_at "b2"), (T.t.F 9 rfl).kp, fun _ h => nomatch h⟩
theorem Zj1 (T : Facts w K mg) : FnOk PP w K mg base (L2.CX PP w) 1 (fAd K ("Alphabet", some "__eq__")) (fdOf K ("Alphabet", some "__eq__")) ["self", "other"] (spD K cs_ Zar) := haveI : FT w K mg := ⟨T⟩; KFn.ok
theorem Zj9 (T : Facts w K mg) : Binds K (fdOf K ("Alphabet", some "__eq__")) ["self", "other"] [] := haveI : FT w K mg := ⟨T⟩; kbN (T.F 9 rfl) (by walk_at "b2")
instance : KFn PP w K mg base cs_ Zaq 1 none (fAd K ("Stage", some "__init__")) (fdOf K ("Stage", some "__init__")) ["self", "alphabet"] := ⟨fnK (N := Zo3) (T.t.F 10 rfl) (by walk_at "sc") Zhc Zjw (r := fun _ => Zb2) (by delta Zb2; walk_at "kk"), kbN (T.t.F 10 rfl) (by walk_at "b2"), (T.t.F 10 rfl).kp, fun _ h => nomatch h⟩
theorem Zb9 (T : Facts w K mg) : FnOk PP w K mg base (L2.CX PP w) 1 (fAd K ("Stage", some "__init__")) (fdOf K ("Stage", some "__init__")) ["self", "alphabet"] (spD K cs_ Zaq) := haveI : FT w K mg := ⟨T⟩; KFn.ok
theorem Zcc (T : Facts w K mg) : Binds K (fdOf K ("Stage", some "__init__")) ["self", "alphabet"] [] := haveI : FT w K mg := ⟨T⟩; kbN (T.F 10 rfl) (by walk_at "b2")
instance : KHm Zau "members" := ⟨Zed⟩
instance : KMo PP w K mg base cs_ Zau "members" 4 := ⟨by rintro C sp ⟨k, hk, rfl, q, hg, rfl⟩; cases k <;> first | (cases hg; done) | (cases hg; exact kme (by decide)) | exact absurd hk (by decide)⟩
theorem Zga (T : Facts w K mg) : ∀ C sp, okM K cs_ Zau C sp → Zjm PP w K mg base (L2.CX PP w) 4 "members" C sp [] := haveI : FT w K mg := ⟨T⟩; KMo.ok
theorem Zlq (T : Facts w K mg) (c0 : CS) (M0 : Mem) {E : XK} {Ed : DX} (px : PoX ⟨K, cs_, c0, M0⟩ c0 M0 Ed E) : SimS ⟨K, cs_, c0, M0⟩ (Zdg PP w K E) (Zcq Ed) :=
 Zan (Zbx (Zh6 (Zna T) Zl7 (by walk_at "sa"))) (Zan (Zbm (f := .name) (csok T) Zaf Zaf) (Zan (Zbm (f := .chosen) (csok T) Zaf (Zdj (fun _ => rfl) px Zed Zaf (by walk_at "sa"))) (Zan (Zdk (by walk_at "sa") (Zc6 (k := .BadStage) rfl px (by walk_at "sa")) Zcz) (Zan (Zbm (f := .after) (csok T) Zaf Zaf) (Zbm (f := .each) (csok T) Zaf Zaf)))))
theorem Zjz (T : Facts w K mg) (vs : List V) (H : Hp) (Q : VK) (E : XK) (h : Zcy K vs H Q E) : Zdg PP w K E { nx := fun _ H' => Q .non H', rt := Q } (L2.start Ze2 vs) H :=
 Zda (N := Ze2) (t := fun E => Zdg PP w K E) (d := fun E => Zcq E) (fun S E Ed hK hc px => by obtain ⟨K, cs, c0, M0⟩ := S; cases hK; cases hc; exact Zlq T c0 M0 px) Zl3 vs H Q E h
theorem Zmg (vs : List V) (H : Hp) (Q : VK) (E : XK) (h : Zcy K vs H Q E) : vs.length = 5 := Zdi Zd2 vs H Q E h
theorem Zgu (T : Facts w K mg) : KBn K (fdOf K ("Drop", some "__init__")) ["self", "alphabet", "name", "after", "each"] 3 ["after", "each"] (fun us ws => us ++ ws) (fun vs zs => vs ++ zs) := (T.sb 0 rfl rfl).kbinds0 3 ["after", "each"] (fun kV doc pm an cdv ct cc us ws hu hk => match us, hu, ws, hk with | [_, _, _], _, [_, _], _ => rfl)
theorem Znt : Zcd Ze2 ["self", "alphabet", "name", "after", "each"] (defScope Zne) := ⟨rfl, rfl, rfl, by decide +kernel, rfl, by decide +kernel, by decide +kernel, by decide +kernel⟩
theorem Zgt (T : Facts w K mg) : FnOk PP w K mg base (L2.CX PP w) 5 (fAd K ("Drop", some "__init__")) (fdOf K ("Drop", some "__init__")) ["self", "alphabet", "name", "after", "each"] (Zcy K) := by
 refine (T.sb 0 rfl rfl).ok Znt (fun vs H Q E h => Zmg vs H Q E h) (fun cdv cc A outer s H vs Q E sd hr h => ⟨Zdg PP w K E, id ?_, Zjz T vs H Q E h⟩)
 exact Zfe (Zff (Zl9 sd (T.n 33 rfl) (T.sg 0 rfl) (T.si 0 rfl) (FnOk.raw (Zb9 T) (Zcc T) .nil) (hr.mono (by decide)) passL (pa_cons (pv 1) pa_nil))) (PSs.a (pss_cons (ps_fld (pv 0) (pv 2) rfl) (pss_cons (ps_fld (pv 0) (Zea (pv 1) (Zga T) (hr.mono (by decide)) (passes_call (takes_of rfl rfl rfl rfl) (fun _ _ _ _ h => h)) (pa_cons (pv 2) pa_nil)) rfl) (pss_cons (ps_if (pt_not (pt_chain Z1o Z1o pe_int (pv 3) (pe_glob rfl (T.int 92 rfl).choose_spec ⟨_, rfl⟩))) (pss_one (ps_raise rfl (takes_of rfl rfl rfl rfl) (pmk_oex (T.xc 1 rfl).o (T.i 36 rfl) (T.ti 36 rfl) (Zbj T) (hr.mono (by decide)) (Zbk T) .nil passL rfl (T.g 4 rfl) (pa_cons (Zj0 (by decide +kernel)) pa_nil)))) pss_nil) (pss_cons (ps_fld (pv 0) (pv 3) rfl) (pss_one (ps_fld (pv 0) (pv 4) rfl)))))))
instance : KFk PP w K mg base cs_ Zbc 5 (fAd K ("Drop", some "__init__")) (fdOf K ("Drop", some "__init__")) ["self", "alphabet", "name", "after", "each"] 3 ["after", "each"] := ⟨Zgt T.t, Zgu T.t⟩
instance : KFn PP w K mg base cs_ Za0 1 none (fAd K ("Drop", some "text")) (fdOf K ("Drop", some "text")) ["self"] := ⟨fnA (N := Zqk) (T.t.F 11 rfl) (by walk_at "sc") Zix Zl2 (r := fun _ => Zcp) (by delta Zcp; walk_at "kk"), kbN (T.t.F 11 rfl) (by walk_at "b1"), (T.t.F 11 rfl).kp, fun _ h => nomatch h⟩
theorem Zn2 (T : Facts w K mg) : FnOk PP w K mg base (L2.CX PP w) 1 (fAd K ("Drop", some "text")) (fdOf K ("Drop", some "text")) ["self"] (spD K cs_ Za0) := haveI : FT w K mg := ⟨T⟩; KFn.ok
theorem Zoy (T : Facts w K mg) : Binds K (fdOf K ("Drop", some "text")) ["self"] [] := haveI : FT w K mg := ⟨T⟩; kbN (T.F 11 rfl) (by walk_at "b1")
instance : KMe PP w K mg base cs_ .Drop Za0 "text" 1 := ⟨⟨(T.t.cl 72 rfl), _, _, _, _, (T.t.mb 3 rfl), KFn.ok, KFn.bi (P := PP) (w := w) (mg := mg) (base := base) (cs := cs_) (g := Za0), .nil⟩⟩
theorem Zf5 (T : Facts w K mg) (c0 : CS) (M0 : Mem) {E : XK} {Ed : DX} (px : PoX ⟨K, cs_, c0, M0⟩ c0 M0 Ed E) : SimS ⟨K, cs_, c0, M0⟩ (Zbr PP w K E) (Za6 Ed) :=
 Zbx (Zw3 (Zg0 T) px (by walk_at "sa") (by walk_at "sa"))
theorem Zfd (T : Facts w K mg) (vs : List V) (H : Hp) (Q : VK) (E : XK) (h : Zb5 K vs H Q E) : Zbr PP w K E { nx := fun _ H' => Q .non H', rt := Q } (L2.start Zcv vs) H :=
 Zda (N := Zcv) (t := fun E => Zbr PP w K E) (d := fun E => Za6 E) (fun S E Ed hK hc px => by obtain ⟨K, cs, c0, M0⟩ := S; cases hK; cases hc; exact Zf5 T c0 M0 px) Zf8 vs H Q E h
theorem Zgf (vs : List V) (H : Hp) (Q : VK) (E : XK) (h : Zb5 K vs H Q E) : vs.length = 5 := Zdi Zev vs H Q E h
theorem Zhd (T : Facts w K mg) : KBn K (fdOf K ("LastDrop", some "__init__")) ["self", "alphabet", "name", "after", "each"] 3 ["after", "each"] (fun us ws => us ++ ws) (fun vs zs => vs ++ zs) := (T.sb 1 rfl rfl).kbinds0 3 ["after", "each"] (fun kV doc pm an cdv ct cc us ws hu hk => match us, hu, ws, hk with | [_, _, _], _, [_, _], _ => rfl)
theorem Zg5 : Zcd Zcv ["self", "alphabet", "name", "after", "each"] (defScope Zg2) := ⟨rfl, rfl, rfl, by decide +kernel, rfl, by decide +kernel, by decide +kernel, by decide +kernel⟩
theorem Zg8 (T : Facts w K mg) : FnOk PP w K mg base (L2.CX PP w) 6 (fAd K ("LastDrop", some "__init__")) (fdOf K ("LastDrop", some "__init__")) ["self", "alphabet", "name", "after", "each"] (Zb5 K) := by
 refine (T.sb 1 rfl rfl).ok Zg5 (fun vs H Q E h => Zgf vs H Q E h) (fun cdv cc A outer s H vs Q E sd hr h => ⟨Zbr PP w K E, id ?_, Zfd T vs H Q E h⟩)
 exact Zq4 (Zff (Zxf (ks := ["after", "each"]) sd (T.n 33 rfl) (T.sg 1 rfl) (T.si 1 rfl) ⟨_, _, Zgt T, Zgu T⟩ (hr.mono (by decide)) (passes_call (takes_of rfl rfl rfl rfl) (fun _ _ _ _ h => h)) (pa_cons (pv 1) (pa_cons (pv 2) pa_nil)) (pk_cons (pv 3) (pk_cons (pv 4) pk_nil))))
instance : KFk PP w K mg base cs_ Zav 6 (fAd K ("LastDrop", some "__init__")) (fdOf K ("LastDrop", some "__init__")) ["self", "alphabet", "name", "after", "each"] 3 ["after", "each"] := ⟨Zg8 T.t, Zhd T.t⟩
theorem Zf4 (T : Facts w K mg) (c0 : CS) (M0 : Mem) : SimS ⟨K, cs_, c0, M0⟩ (Zbq PP w K) (Za5) :=
 Zf2 (Zh7 Zni (Zh6 (Zgz T) Zl7 Zlf) (Zjq fun _ => rfl))
theorem Zfc (T : Facts w K mg) (vs : List V) (H : Hp) (Q : VK) (E : XK) (h : Zb4 K vs H Q E) : Zbq PP w K { nx := fun _ H' => Q .non H', rt := Q } (L2.start Zcu vs) H :=
 Zq3 (N := Zcu) (t := fun _ => Zbq PP w K) (d := fun _ => Za5) (fun S E Ed hK hc px => by obtain ⟨K, cs, c0, M0⟩ := S; cases hK; cases hc; exact Zf4 T c0 M0) Zf7 vs H Q E h
theorem Zge (vs : List V) (H : Hp) (Q : VK) (E : XK) (h : Zb4 K vs H Q E) : vs.length = 1 := Zdi Zeu vs H Q E h
theorem Zg4 : Zcd Zcu ["self"] (defScope Zg1) := ⟨rfl, rfl, rfl, by decide +kernel, rfl, by decide +kernel, by decide +kernel, by decide +kernel⟩
theorem Zhe (T : Facts w K mg) : Binds K (fdOf K ("LastDrop", some "text")) ["self"] [] := (T.sb 2 rfl rfl).bindsN fun _ _ _ _ _ _ _ us hl => match us, hl with | [_], _ => rfl
theorem Zg7 (T : Facts w K mg) : FnOk PP w K mg base (L2.CX PP w) 2 (fAd K ("LastDrop", some "text")) (fdOf K ("LastDrop", some "text")) ["self"] (Zb4 K) := by
 refine (T.sb 2 rfl rfl).ok Zg4 (fun vs H Q E h => Zge vs H Q E h) (fun cdv cc A outer s H vs Q E sd hr h => ⟨Zbq PP w K, id ?_, Zfc T vs H Q E h⟩)
 exact Zq4 (Z1m (Z4l Zug (Zxg sd (T.n 33 rfl) (T.sg 2 rfl) (T.si 2 rfl) (FnOk.raw (Zn2 T) (Zoy T) .nil) (hr.mono (by decide)) passL ) (PE.a (Zj0 (by decide +kernel)))))
instance : KFn PP w K mg base cs_ Zal 2 none (fAd K ("LastDrop", some "text")) (fdOf K ("LastDrop", some "text")) ["self"] := ⟨Zg7 T.t, Zhe T.t, (T.t.sb 2 rfl rfl).kp, fun _ h => nomatch h⟩
instance : KMe PP w K mg base cs_ .LastDrop Zal "text" 2 := ⟨⟨(T.t.cl 73 rfl), _, _, _, _, (T.t.mb 4 rfl), KFn.ok, KFn.bi (P := PP) (w := w) (mg := mg) (base := base) (cs := cs_) (g := Zal), .nil⟩⟩
theorem Zjr (T : Facts w K mg) (c0 : CS) (M0 : Mem) {E : XK} {Ed : DX} (px : PoX ⟨K, cs_, c0, M0⟩ c0 M0 Ed E) : SimS ⟨K, cs_, c0, M0⟩ (Zcx PP w K E) (Zb1 Ed) :=
 Zan (Zbx (Zh6 (Zk6 T) Zl7 (by walk_at "sa"))) (Zan (Zdk (Znk (by walk_at "sa") (Zh8 (Zld (Zdj (fun _ => rfl) Zl7 Zgi Zaf (by walk_at "sa"))))) (Zc6 (k := .BadStage) rfl px (by walk_at "sa")) Zcz) (Zan (Zbm (f := .sign) (csok T) Zaf Zaf) (Zan (Zbm (f := .name) (csok T) Zaf Zaf) (Zbm (f := .chosen) (csok T) Zaf (Zdj (fun _ => rfl) px Zed Zaf (by walk_at "sa"))))))
theorem Zii (T : Facts w K mg) (vs : List V) (H : Hp) (Q : VK) (E : XK) (h : Zdh K vs H Q E) : Zcx PP w K E { nx := fun _ H' => Q .non H', rt := Q } (L2.start Zd7 vs) H :=
 Zda (N := Zd7) (t := fun E => Zcx PP w K E) (d := fun E => Zb1 E) (fun S E Ed hK hc px => by obtain ⟨K, cs, c0, M0⟩ := S; cases hK; cases hc; exact Zjr T c0 M0 px) Zjv vs H Q E h
theorem Zj5 (vs : List V) (H : Hp) (Q : VK) (E : XK) (h : Zdh K vs H Q E) : vs.length = 4 := Zdi Zhb vs H Q E h
theorem Zlr : Zcd Zd7 ["self", "alphabet", "sign", "name"] (defScope Zk7) := ⟨rfl, rfl, rfl, by decide +kernel, rfl, by decide +kernel, by decide +kernel, by decide +kernel⟩
theorem Zmy (T : Facts w K mg) : Binds K (fdOf K ("Write", some "__init__")) ["self", "alphabet", "sign", "name"] [] := (T.sb 3 rfl rfl).bindsN fun _ _ _ _ _ _ _ us hl => match us, hl with | [_, _, _, _], _ => rfl
theorem Zma (T : Facts w K mg) : FnOk PP w K mg base (L2.CX PP w) 5 (fAd K ("Write", some "__init__")) (fdOf K ("Write", some "__init__")) ["self", "alphabet", "sign", "name"] (Zdh K) := by
 refine (T.sb 3 rfl rfl).ok Zlr (fun vs H Q E h => Zj5 vs H Q E h) (fun cdv cc A outer s H vs Q E sd hr h => ⟨Zcx PP w K E, id ?_, Zii T vs H Q E h⟩)
 exact Zfe (Zff (Zl9 sd (T.n 33 rfl) (T.sg 0 rfl) (T.si 0 rfl) (FnOk.raw (Zb9 T) (Zcc T) .nil) (hr.mono (by decide)) passL (pa_cons (pv 1) pa_nil))) (PSs.a (pss_cons (ps_if (PW.pt (pw_or (pt_cmpR (Z1n (hu64 hr)) (pe_callB Zmw rfl (T.n 27 rfl) (by decide +kernel) (pa_cons (pv 2) pa_nil)) pe_int (nomark _)) (pw_or1 (pt_not (pt_truth (Zea (pv 1) (Zkp T) (hr.mono (by decide)) passL (pa_cons (pv 2) pa_nil)) (fun _ => rfl)))))) (pss_one (ps_raise rfl (takes_of rfl rfl rfl rfl) (pmk_oex (T.xc 1 rfl).o (T.i 36 rfl) (T.ti 36 rfl) (Zbj T) (hr.mono (by decide)) (Zbk T) .nil passL rfl (T.g 4 rfl) (pa_cons (Zj0 (by decide +kernel)) pa_nil)))) pss_nil) (pss_cons (ps_fld (pv 0) (pv 2) rfl) (pss_cons (ps_fld (pv 0) (pv 3) rfl) (pss_one (ps_fld (pv 0) (Zea (pv 1) (Zga T) (hr.mono (by decide)) (passes_call (takes_of rfl rfl rfl rfl) (fun _ _ _ _ h => h)) (pa_cons (pv 3) pa_nil)) rfl))))))
instance : KFn PP w K mg base cs_ Zb3 5 none (fAd K ("Write", some "__init__")) (fdOf K ("Write", some "__init__")) ["self", "alphabet", "sign", "name"] := ⟨Zma T.t, Zmy T.t, (T.t.sb 3 rfl rfl).kp, fun _ h => nomatch h⟩
instance : KFn PP w K mg base cs_ Zbo 1 none (fAd K ("Write", some "text")) (fdOf K ("Write", some "text")) ["self"] := ⟨fnA (N := Zo2) (T.t.F 12 rfl) (by walk_at "sc") Zha Zju (r := fun _ => Zb0) (by delta Zb0; walk_at "kk"), kbN (T.t.F 12 rfl) (by walk_at "b1"), (T.t.F 12 rfl).kp, fun _ h => nomatch h⟩
instance : KMe PP w K mg base cs_ .Write Zbo "text" 1 := ⟨⟨(T.t.cl 74 rfl), _, _, _, _, (T.t.mb 5 rfl), KFn.ok, KFn.bi (P := PP) (w := w) (mg := mg) (base := base) (cs := cs_) (g := Zbo), .nil⟩⟩
theorem Zlp (T : Facts w K mg) (c0 : CS) (M0 : Mem) {E : XK} {Ed : DX} (px : PoX ⟨K, cs_, c0, M0⟩ c0 M0 Ed E) : SimS ⟨K, cs_, c0, M0⟩ (Zdf PP w K E) (Zcm Ed) :=
 Zan (Zbx (Zh6 (Zm9 T) Zl7 (by walk_at "sa"))) (Zan (Zbm (f := .name) (csok T) Zaf Zaf) (Zbm (f := .chosen) (csok T) Zaf (Zdj (fun _ => rfl) px Zed Zaf (by walk_at "sa"))))
theorem Zjy (T : Facts w K mg) (vs : List V) (H : Hp) (Q : VK) (E : XK) (h : Zdu K vs H Q E) : Zdf PP w K E { nx := fun _ H' => Q .non H', rt := Q } (L2.start Ze1 vs) H :=
 Zda (N := Ze1) (t := fun E => Zdf PP w K E) (d := fun E => Zcm E) (fun S E Ed hK hc px => by obtain ⟨K, cs, c0, M0⟩ := S; cases hK; cases hc; exact Zlp T c0 M0 px) Zlz vs H Q E h
theorem Zmf (vs : List V) (H : Hp) (Q : VK) (E : XK) (h : Zdu K vs H Q E) : vs.length = 3 := Zdi Ziv vs H Q E h
theorem Zns : Zcd Ze1 ["self", "alphabet", "name"] (defScope Znd) := ⟨rfl, rfl, rfl, by decide +kernel, rfl, by decide +kernel, by decide +kernel, by decide +kernel⟩
theorem Zox (T : Facts w K mg) : Binds K (fdOf K ("Once", some "__init__")) ["self", "alphabet", "name"] [] := (T.sb 4 rfl rfl).bindsN fun _ _ _ _ _ _ _ us hl => match us, hl with | [_, _, _], _ => rfl
theorem Zn1 (T : Facts w K mg) : FnOk PP w K mg base (L2.CX PP w) 5 (fAd K ("Once", some "__init__")) (fdOf K ("Once", some "__init__")) ["self", "alphabet", "name"] (Zdu K) := by
 refine (T.sb 4 rfl rfl).ok Zns (fun vs H Q E h => Zmf vs H Q E h) (fun cdv cc A outer s H vs Q E sd hr h => ⟨Zdf PP w K E, id ?_, Zjy T vs H Q E h⟩)
 exact Zfe (Zff (Zl9 sd (T.n 33 rfl) (T.sg 0 rfl) (T.si 0 rfl) (FnOk.raw (Zb9 T) (Zcc T) .nil) (hr.mono (by decide)) passL (pa_cons (pv 1) pa_nil))) (PSs.a (pss_cons (ps_fld (pv 0) (pv 2) rfl) (pss_one (ps_fld (pv 0) (Zea (pv 1) (Zga T) (hr.mono (by decide)) (passes_call (takes_of rfl rfl rfl rfl) (fun _ _ _ _ h => h)) (pa_cons (pv 2) pa_nil)) rfl))))
instance : KFn PP w K mg base cs_ Zcs 5 none (fAd K ("Once", some "__init__")) (fdOf K ("Once", some "__init__")) ["self", "alphabet", "name"] := ⟨Zn1 T.t, Zox T.t, (T.t.sb 4 rfl rfl).kp, fun _ h => nomatch h⟩
instance : KFn PP w K mg base cs_ Zbw 1 none (fAd K ("Once", some "text")) (fdOf K ("Once", some "text")) ["self"] := ⟨fnA (N := Zqi) (T.t.F 13 rfl) (by walk_at "sc") Ziu Zly (r := fun _ => Zcl) (by delta Zcl; walk_at "kk"), kbN (T.t.F 13 rfl) (by walk_at "b1"), (T.t.F 13 rfl).kp, fun _ h => nomatch h⟩
instance : KMe PP w K mg base cs_ .Once Zbw "text" 1 := ⟨⟨(T.t.cl 75 rfl), _, _, _, _, (T.t.mb 6 rfl), KFn.ok, KFn.bi (P := PP) (w := w) (mg := mg) (base := base) (cs := cs_) (g := Zbw), .nil⟩⟩
theorem Znq (T : Facts w K mg) (c0 : CS) (M0 : Mem) {E : XK} {Ed : DX} (px : PoX ⟨K, cs_, c0, M0⟩ c0 M0 Ed E) : SimS ⟨K, cs_, c0, M0⟩ (Zd9 PP w K E) (Zc9 Ed) :=
 Zan (Zbx (Zh6 (Zo7 T) Zl7 (by walk_at "sa"))) (Zan (Zdk (Znk (by walk_at "sa") (Zh8 (Zld (Zdj (fun _ => rfl) Zl7 Zgi Zaf (by walk_at "sa"))))) (Zc6 (k := .BadStage) rfl px (by walk_at "sa")) Zcz) (Zbm (f := .sign) (csok T) Zaf Zaf))
theorem Zl6 (T : Facts w K mg) (vs : List V) (H : Hp) (Q : VK) (E : XK) (h : Zep K vs H Q E) : Zd9 PP w K E { nx := fun _ H' => Q .non H', rt := Q } (L2.start Zgm vs) H :=
 Zda (N := Zgm) (t := fun E => Zd9 PP w K E) (d := fun E => Zc9 E) (fun S E Ed hK hc px => by obtain ⟨K, cs, c0, M0⟩ := S; cases hK; cases hc; exact Znq T c0 M0 px) Znx vs H Q E h
theorem Zob (vs : List V) (H : Hp) (Q : VK) (E : XK) (h : Zep K vs H Q E) : vs.length = 3 := Zdi Zj4 vs H Q E h
theorem Zpl : Zcd Zgm ["self", "alphabet", "sign"] (defScope Zo8) := ⟨rfl, rfl, rfl, by decide +kernel, rfl, by decide +kernel, by decide +kernel, by decide +kernel⟩
theorem Zqb (T : Facts w K mg) : Binds K (fdOf K ("Add", some "__init__")) ["self", "alphabet", "sign"] [] := (T.sb 5 rfl rfl).bindsN fun _ _ _ _ _ _ _ us hl => match us, hl with | [_, _, _], _ => rfl
theorem Zps (T : Facts w K mg) : FnOk PP w K mg base (L2.CX PP w) 3 (fAd K ("Add", some "__init__")) (fdOf K ("Add", some "__init__")) ["self", "alphabet", "sign"] (Zep K) := by
 refine (T.sb 5 rfl rfl).ok Zpl (fun vs H Q E h => Zob vs H Q E h) (fun cdv cc A outer s H vs Q E sd hr h => ⟨Zd9 PP w K E, id ?_, Zl6 T vs H Q E h⟩)
 exact Zfe (Zff (Zl9 sd (T.n 33 rfl) (T.sg 0 rfl) (T.si 0 rfl) (FnOk.raw (Zb9 T) (Zcc T) .nil) (hr.mono (by decide)) passL (pa_cons (pv 1) pa_nil))) (PSs.a (pss_cons (ps_if (PW.pt (pw_or (pt_cmpR (Z1n (hu64 hr)) (pe_callB Zmw rfl (T.n 27 rfl) (by decide +kernel) (pa_cons (pv 2) pa_nil)) pe_int (nomark _)) (pw_or1 (pt_not (pt_truth (Zea (pv 1) (Zkp T) (hr.mono (by decide)) passL (pa_cons (pv 2) pa_nil)) (fun _ => rfl)))))) (pss_one (ps_raise rfl (takes_of rfl rfl rfl rfl) (pmk_oex (T.xc 1 rfl).o (T.i 36 rfl) (T.ti 36 rfl) (Zbj T) (hr.mono (by decide)) (Zbk T) .nil passL rfl (T.g 4 rfl) (pa_cons (Zj0 (by decide +kernel)) pa_nil)))) pss_nil) (pss_one (ps_fld (pv 0) (pv 2) rfl))))
instance : KFn PP w K mg base cs_ Zdc 3 none (fAd K ("Add", some "__init__")) (fdOf K ("Add", some "__init__")) ["self", "alphabet", "sign"] := ⟨Zps T.t, Zqb T.t, (T.t.sb 5 rfl rfl).kp, fun _ h => nomatch h⟩
instance : KFn PP w K mg base cs_ Zcf 1 none (fAd K ("Add", some "text")) (fdOf K ("Add", some "text")) ["self"] := ⟨fnA (N := Zsp) (T.t.F 14 rfl) (by walk_at "sc") Zj3 Znw (r := fun _ => Zc8) (by delta Zc8; walk_at "kk"), kbN (T.t.F 14 rfl) (by walk_at "b1"), (T.t.F 14 rfl).kp, fun _ h => nomatch h⟩
instance : KMe PP w K mg base cs_ .Add Zcf "text" 1 := ⟨⟨(T.t.cl 76 rfl), _, _, _, _, (T.t.mb 7 rfl), KFn.ok, KFn.bi (P := PP) (w := w) (mg := mg) (base := base) (cs := cs_) (g := Zcf), .nil⟩⟩
instance : KFn PP w K mg base cs_ Zdn 8 (some "read_drop") (fAd K ("read_drop", none)) (fdOf K ("read_drop", none)) ["alphabet", "name", "parts"] := ⟨fnA (N := Zqf) (T.t.F 15 rfl) (by walk_at "sc") Zir Zlu (r := Zch) (by delta Zch; walk_at "kk"), kbN (T.t.F 15 rfl) (by walk_at "b3"), (T.t.F 15 rfl).kp, fun | _, rfl => (T.t.g 22 rfl)⟩
instance : KFn PP w K mg base cs_ Zbn 9 (some "read_stage") (fAd K ("read_stage", none)) (fdOf K ("read_stage", none)) ["alphabet", "text"] := ⟨fnA (N := Zo1) (T.t.F 16 rfl) (by walk_at "sc") Zg9 Zjt (r := Zbz) (by delta Zbz; walk_at "kk"), kbN (T.t.F 16 rfl) (by walk_at "b2"), (T.t.F 16 rfl).kp, fun | _, rfl => (T.t.g 23 rfl)⟩
theorem Zlo (T : Facts w K mg) (c0 : CS) (M0 : Mem) {E : XK} {Ed : DX} (px : PoX ⟨K, cs_, c0, M0⟩ c0 M0 Ed E) : SimS ⟨K, cs_, c0, M0⟩ (Zde PP w K E) (Zck Ed) :=
 Zan (Zdk (Ze9 (Zh7 Zw2 (by walk_at "sa") (Zqx (k := .Rule) (T.cr 2 rfl) (T.cv 2 rfl) fun _ => rfl))) (Zkk (k := .BadRule) (f := .stage) (g := .what) rfl px (Zhj (Zh7 Zni (Zqx (k := .Rule) (T.cr 2 rfl) (T.cv 2 rfl) fun _ => rfl) (Zjq fun _ => rfl)) (by walk_at "sa"))) Zcz) (Zan (Zia (Zhi Zaf) Zfa (Zdk (Ze9 (Zh7 Zti (Zpf (f := .alphabet) (csok T) Zaf) Zaf)) (Zkl (k := .Mixed) px) Zcz)) (Zan (Zbm (f := .alphabet) (csok T) Zaf Zaf) (Zbm (f := .stages) (csok T) Zaf (Znj Zaf))))
theorem Zjx (T : Facts w K mg) (vs : List V) (H : Hp) (Q : VK) (E : XK) (h : Zgq K vs H Q E) : Zde PP w K E { nx := fun _ H' => Q .non H', rt := Q } (L2.start Ze0 vs) H :=
 Zda (N := Ze0) (t := fun E => Zde PP w K E) (d := fun E => Zck E) (fun S E Ed hK hc px => by obtain ⟨K, cs, c0, M0⟩ := S; cases hK; cases hc; exact Zlo T c0 M0 px) Zlx vs H Q E h
theorem Zgr : FnScope Ze0 ["self", "alphabet", "stages"] (defScope Znc) := ⟨rfl, rfl, rfl, by decide +kernel, rfl, by decide +kernel, by decide +kernel⟩
theorem Zn0 (T : Facts w K mg) : FnR PP w K mg base (L2.CX PP w) 3 (fAd K ("Rule", some "__init__")) (Zh5 2 (Zgq K)) := by
 refine FunD.star (ps := ["self", "alphabet"]) (pv := "stages") (T.F 17 rfl) Zgr StX.cxUp (fun kV doc pm an cdv ct => StX.bind_star2 (B := fun us => bindArgs (PySem.W.fnOf _ _ _ _ _ .none kV doc pm an cdv ct) ⟨us, []⟩) (fun _ _ => rfl) (fun _ _ _ _ => rfl)) (fun cdv A outer s H vs Q E hr h => ⟨Zde PP w K E, id ?_, Zjx T vs H Q E h⟩)
 exact pss_cons (ps_if (pt_cmpR Z4q (pe_callB Zmw rfl (T.n 27 rfl) (by decide +kernel) (pa_cons (pv 2) pa_nil)) (pe_cval (pe_glob rfl (T.g 12 rfl) rfl)) (nomark _)) (pss_one (ps_raise rfl (takes_of rfl rfl rfl rfl) (pmk_oex (T.xc 3 rfl).o (T.i 37 rfl) (T.ti 37 rfl) (Zil T) (hr.mono (by decide)) (Zjg T) .nil passL rfl (T.g 3 rfl) (pa_cons (pe_op Zug (pe_cval (pe_glob rfl (T.g 12 rfl) rfl)) pe_int) (pa_cons (Zj0 (by decide +kernel)) pa_nil))))) pss_nil) (pss_cons (ps_for PassesOwn.leaving rfl (pi_tup (pv 2)) (pg_name (i := 3) Zgr.nd rfl (by first | exact Or.inl rfl | exact Or.inr rfl)) (pss_one (ps_if (pt_cmpR (Zzf (Zj1 T) (hr.mono (by decide)) (T.me 87 rfl) (T.ne 0 rfl) (Zj9 T) passL) (pe_fld (pv 3) rfl) (pv 1) (nomark _)) (pss_one (ps_raise rfl (takes_of rfl rfl rfl rfl) (Zxe PySem.F.excBase_ValueError (T.e0 0 rfl) (T.g 9 rfl) (T.xc 2 rfl).o.kC (raises_own (T.xc 2 rfl).o.exC (T.xc 2 rfl).o.tyC) rfl))) pss_nil))) (pss_cons (ps_fld (pv 0) (pv 1) rfl) (pss_one (ps_fld (pv 0) (pe_tupleOf rfl (T.n 34 rfl) (pv 2)) rfl))))
instance : KFs PP w K mg base cs_ Zba 3 (fAd K ("Rule", some "__init__")) := ⟨Zn0 T.t⟩
instance : KFn PP w K mg base cs_ Zcr 10 none (cmAd K ("Rule", some "read")) (fdAt K (cmAd K ("Rule", some "read"))) ["cls", "alphabet", "text"] := ⟨fnA (N := Zqh) (T.t.M 0 rfl) (by walk_at "sc") Zit Zlw (r := fun _ => Zcj) (by delta Zcj; walk_at "kk"), kbN (T.t.M 0 rfl) (by walk_at "b3"), (T.t.M 0 rfl).kp, fun _ h => nomatch h⟩
instance : KCm PP w K mg base cs_ .Rule Zcr "read" 10 := ⟨_, _, (T.t.cr 2 rfl), (T.t.cm 0 rfl rfl).choose_spec, kraw⟩
instance : KHm Zi0 "text" := ⟨Z2h⟩
instance : KMo PP w K mg base cs_ Zi0 "text" 2 := ⟨by rintro C sp ⟨k, hk, rfl, q, hg, rfl⟩; cases k <;> first | (cases hg; done) | (cases hg; exact kme (by decide)) | exact absurd hk (by decide)⟩
instance : KFn PP w K mg base cs_ Za9 3 none (fAd K ("Rule", some "text")) (fdOf K ("Rule", some "text")) ["self"] := ⟨fnA (N := Zqg) (T.t.F 18 rfl) (by walk_at "sc") Zis Zlv (r := fun _ => Zci) (by delta Zci; walk_at "kk"), kbN (T.t.F 18 rfl) (by walk_at "b1"), (T.t.F 18 rfl).kp, fun _ h => nomatch h⟩
instance : KHm (gm1 .Rule Za9) "text" := ⟨gn1 (by decide +kernel)⟩
instance : KMe PP w K mg base cs_ .Rule Za9 "text" 3 := ⟨⟨(T.t.cl 77 rfl), _, _, _, _, (T.t.mb 8 rfl), KFn.ok, KFn.bi (P := PP) (w := w) (mg := mg) (base := base) (cs := cs_) (g := Za9), .nil⟩⟩
instance : KFn PP w K mg base cs_ Zcb 10 (some "read_stages") (fAd K ("read_stages", none)) (fdOf K ("read_stages", none)) ["alphabet", "texts"] := ⟨fnA (N := Zm0) (T.t.F 19 rfl) (by walk_at "sc") Zgc Zie (r := fun _ => Zbs) (by delta Zbs; walk_at "kk"), kbN (T.t.F 19 rfl) (by walk_at "b2"), (T.t.F 19 rfl).kp, fun | _, rfl => (T.t.g 24 rfl)⟩
instance : KFn PP w K mg base cs_ Zce 4 none (fAd K ("Lot", some "__init__")) (fdOf K ("Lot", some "__init__")) ["self", "rules"] := ⟨fnK (N := Zso) (T.t.F 20 rfl) (by walk_at "sc") Zj2 Znv (r := fun _ => Zc7) (by delta Zc7; walk_at "kk"), kbN (T.t.F 20 rfl) (by walk_at "b2"), (T.t.F 20 rfl).kp, fun _ h => nomatch h⟩
theorem Zoe (T : Facts w K mg) : KB (L2.CX PP w) PP w K mg base cs_ Zjj "Lot.made" (defScope Zgp) (cmAd K ("Lot", some "made")) 10 (defBody Zgp) (Zco) := by
 haveI : FT w K mg := ⟨T⟩
 delta Zco
 walk_at "kk"
theorem Zfg (T : Facts w K mg) : FnRV PP w K mg base (L2.CX PP w) 11 (cmAd K ("Lot", some "made")) 2 ["depth"] catV (spD K cs_ Zaz) := fnV (N := Zjj) (T.M 1 rfl) (by walk_at "sc") (FunD.Z20 (ps := ["cls", "alphabet", "depth"]) (pv := "stages") (T.M 1 rfl) 2 ["depth"] (fun kV doc pm an cdv ct us rest ws hu hw => match us, hu, ws, hw, rest with | [_, _], _, [_], _, [] => rfl | [_, _], _, [_], _, _ :: _ => rfl)) (fun _ _ _ _ a b => a.append b) (fun vs zs h1 h2 => fnV.catL h1 h2) Zl1 (Zoe T)
instance : KCmV PP w K mg base cs_ .Lot Zaz catV "made" 2 ["depth"] 11 := ⟨⟨_, _, (T.t.cr 1 rfl), (T.t.cm 1 rfl rfl).choose_spec, Zfg T.t⟩⟩
instance : KFn PP w K mg base cs_ Zfm 1 none (fAd K ("Lot", some "__len__")) (fdOf K ("Lot", some "__len__")) ["self"] := ⟨fnA (N := Zwq) (T.t.F 21 rfl) (by walk_at "sc") Zme Zpn (r := fun _ => Zdy) (by delta Zdy; walk_at "kk"), kbN (T.t.F 21 rfl) (by walk_at "b1"), (T.t.F 21 rfl).kp, fun _ h => nomatch h⟩
instance : KFn PP w K mg base cs_ Zbb 4 none (fAd K ("Lot", some "texts")) (fdOf K ("Lot", some "texts")) ["self"] := ⟨fnK (N := Zqj) (T.t.F 22 rfl) (by walk_at "sc") Ziw Zl0 (r := fun _ => Zcn) (by delta Zcn; walk_at "kk"), kbN (T.t.F 22 rfl) (by walk_at "b1"), (T.t.F 22 rfl).kp, fun _ h => nomatch h⟩
instance : KHm (gm1 .Lot Zbb) "texts" := ⟨gn1 (by decide +kernel)⟩
instance : KMe PP w K mg base cs_ .Lot Zbb "texts" 4 := ⟨⟨(T.t.cl 78 rfl), _, _, _, _, (T.t.mb 9 rfl), KFn.ok, KFn.bi (P := PP) (w := w) (mg := mg) (base := base) (cs := cs_) (g := Zbb), .nil⟩⟩
instance : KFn PP w K mg base cs_ Zi2 1 (some "_law_bag") (fAd K ("_law_bag", none)) (fdOf K ("_law_bag", none)) ["_law_script"] := ⟨fnK (N := Z3a) (T.t.F 23 rfl) (by walk_at "sc") Zpv Zua (r := fun _ => Zih) (by delta Zih; walk_at "kk"), kbN (T.t.F 23 rfl) (by walk_at "b1"), (T.t.F 23 rfl).kp, fun | _, rfl => (T.t.g 15 rfl)⟩
instance : KFn PP w K mg base cs_ Zdo 1 (some "_law_take") (fAd K ("_law_take", none)) (fdOf K ("_law_take", none)) ["_law_bag_here", "_law_size"] := ⟨fnA (N := Zyq) (T.t.F 24 rfl) (by walk_at "sc") Zn8 Zr9 (r := fun _ => Zfb) (by delta Zfb; walk_at "kk"), kbN (T.t.F 24 rfl) (by walk_at "b2"), (T.t.F 24 rfl).kp, fun | _, rfl => (T.t.g 19 rfl)⟩
instance : KFn PP w K mg base cs_ Zfl 1 (some "_law_forms") (fAd K ("_law_forms", none)) (fdOf K ("_law_forms", none)) ["_law_letters"] := ⟨fnA (N := Zwp) (T.t.F 25 rfl) (by walk_at "sc") Zmd Zpm (r := fun _ => Zdx) (by delta Zdx; walk_at "kk"), kbN (T.t.F 25 rfl) (by walk_at "b1"), (T.t.F 25 rfl).kp, fun | _, rfl => (T.t.g 16 rfl)⟩
instance : KFn PP w K mg base cs_ Zhp 12 (some "_law_full") (fAd K ("_law_full", none)) (fdOf K ("_law_full", none)) ["_law_alphabet", "_law_t"] := ⟨fnA (N := Zyr) (T.t.F 26 rfl) (by walk_at "sc") Zoa Zsb (r := fun _ => Zhl) (by delta Zhl; walk_at "kk"), kbN (T.t.F 26 rfl) (by walk_at "b2"), (T.t.F 26 rfl).kp, fun | _, rfl => (T.t.g 17 rfl)⟩
theorem Zr4 (T : Facts w K mg) (c0 : CS) (M0 : Mem) : SimS ⟨K, cs_, c0, M0⟩ (Zhh PP w K) (Zhk) :=
 Zan (Z08 (S := ⟨K, cs_, c0, M0⟩) (x := .TooMany) (tab := [ (.TooMany, true) ]) (i := 2) (tb := fun (W : WX) => tDrop (Ze7 (ga K "Lot") 2 1 catV (Zdv K) (WE W) (tC (.ref (ga K "Lot"))) (tCons (tVar 0) (tCons (tOp (zIx K) (tVar 1) (tC (.int 0))) (tCons (tOp (zIx K) (tVar 1) (tC (.int 1))) (tCons (tOp (zIx K) (tVar 1) (tC (.int 2))) (tCons (tOp (zIx K) (tVar 1) (tC (.int 3))) (tCons (tOp (zIx K) (tVar 1) (tC (.int 4))) (tCons (tOp (zIx K) (tVar 1) (tC (.int 5))) (tCons (tOp (zIx K) (tVar 1) (tC (.int 6))) (tCons (tOp (zIx K) (tVar 1) (tC (.int 7))) (tCons (tOp (zIx K) (tVar 1) (tC (.int 8))) (tCons (tOp (zIx K) (tVar 1) (tC (.int 9))) (tCons (tOp (zIx K) (tVar 1) (tC (.int 10))) (tCons (tOp (zIx K) (tVar 1) (tC (.int 11))) (tCons (tOp (zIx K) (tVar 1) (tC (.int 12))) (tCons (tOp (zIx K) (tVar 1) (tC (.int 13))) (tCons (tOp (zIx K) (tVar 1) (tC (.int 14))) (tCons (tOp (zIx K) (tVar 1) (tC (.int 15))) (tCons (tOp (zIx K) (tVar 1) (tC (.int 16))) (tCons (tOp (zIx K) (tVar 1) (tC (.int 17))) (tCons (tOp (zIx K) (tVar 1) (tC (.int 18))) (tCons (tOp (zIx K) (tVar 1) (tC (.int 19))) (tCons (tOp (zIx K) (tVar 1) (tC (.int 20))) (tCons (tOp (zIx K) (tVar 1) (tC (.int 21))) (tCons (tOp (zIx K) (tVar 1) (tC (.int 22))) (tCons (tOp (zIx K) (tVar 1) (tC (.int 23))) (tCons (tOp (zIx K) (tVar 1) (tC (.int 24))) (tCons (tOp (zIx K) (tVar 1) (tC (.int 25))) (tCons (tOp (zIx K) (tVar 1) (tC (.int 26))) (tCons (tOp (zIx K) (tVar 1) (tC (.int 27))) (tCons (tOp (zIx K) (tVar 1) (tC (.int 28))) (tCons (tOp (zIx K) (tVar 1) (tC (.int 29))) (tCons (tOp (zIx K) (tVar 1) (tC (.int 30))) (tCons (tOp (zIx K) (tVar 1) (tC (.int 31))) (tCons (tOp (zIx K) (tVar 1) (tC (.int 32))) (tCons (tOp (zIx K) (tVar 1) (tC (.int 33))) (tCons (tOp (zIx K) (tVar 1) (tC (.int 34))) (tCons (tOp (zIx K) (tVar 1) (tC (.int 35))) (tCons (tOp (zIx K) (tVar 1) (tC (.int 36))) (tCons (tOp (zIx K) (tVar 1) (tC (.int 37))) (tCons (tOp (zIx K) (tVar 1) (tC (.int 38))) (tCons (tOp (zIx K) (tVar 1) (tC (.int 39))) (tCons (tOp (zIx K) (tVar 1) (tC (.int 40))) (tCons (tOp (zIx K) (tVar 1) (tC (.int 41))) (tCons (tOp (zIx K) (tVar 1) (tC (.int 42))) (tCons (tOp (zIx K) (tVar 1) (tC (.int 43))) (tCons (tOp (zIx K) (tVar 1) (tC (.int 44))) (tCons (tOp (zIx K) (tVar 1) (tC (.int 45))) (tCons (tOp (zIx K) (tVar 1) (tC (.int 46))) (tCons (tOp (zIx K) (tVar 1) (tC (.int 47))) (tCons (tOp (zIx K) (tVar 1) (tC (.int 48))) (tCons (tOp (zIx K) (tVar 1) (tC (.int 49))) (tCons (tOp (zIx K) (tVar 1) (tC (.int 50))) (tCons (tOp (zIx K) (tVar 1) (tC (.int 51))) (tCons (tOp (zIx K) (tVar 1) (tC (.int 52))) (tCons (tOp (zIx K) (tVar 1) (tC (.int 53))) (tCons (tOp (zIx K) (tVar 1) (tC (.int 54))) (tCons (tOp (zIx K) (tVar 1) (tC (.int 55))) (tCons (tOp (zIx K) (tVar 1) (tC (.int 56))) (tCons (tOp (zIx K) (tVar 1) (tC (.int 57))) (tCons (tOp (zIx K) (tVar 1) (tC (.int 58))) (tCons (tOp (zIx K) (tVar 1) (tC (.int 59))) (tCons (tOp (zIx K) (tVar 1) (tC (.int 60))) (tCons (tOp (zIx K) (tVar 1) (tC (.int 61))) (tCons (tOp (zIx K) (tVar 1) (tC (.int 62))) (tCons (tOp (zIx K) (tVar 1) (tC (.int 63))) (tCons (tOp (zIx K) (tVar 1) (tC (.int 64))) (tCons (tOp (zIx K) (tVar 1) (tC (.int 65))) (tCons (tOp (zIx K) (tVar 1) (tC (.int 66))) (tCons (tOp (zIx K) (tVar 1) (tC (.int 67))) (tCons (tOp (zIx K) (tVar 1) (tC (.int 68))) (tCons (tOp (zIx K) (tVar 1) (tC (.int 69))) (tCons (tOp (zIx K) (tVar 1) (tC (.int 70))) (tCons (tOp (zIx K) (tVar 1) (tC (.int 71))) (tCons (tOp (zIx K) (tVar 1) (tC (.int 72))) (tCons (tOp (zIx K) (tVar 1) (tC (.int 73))) (tCons (tOp (zIx K) (tVar 1) (tC (.int 74))) (tCons (tOp (zIx K) (tVar 1) (tC (.int 75))) (tCons (tOp (zIx K) (tVar 1) (tC (.int 76))) (tCons (tOp (zIx K) (tVar 1) (tC (.int 77))) (tCons (tOp (zIx K) (tVar 1) (tC (.int 78))) (tCons (tOp (zIx K) (tVar 1) (tC (.int 79))) (tCons (tOp (zIx K) (tVar 1) (tC (.int 80))) (tCons (tOp (zIx K) (tVar 1) (tC (.int 81))) (tCons (tOp (zIx K) (tVar 1) (tC (.int 82))) (tCons (tOp (zIx K) (tVar 1) (tC (.int 83))) (tCons (tOp (zIx K) (tVar 1) (tC (.int 84))) (tCons (tOp (zIx K) (tVar 1) (tC (.int 85))) (tCons (tOp (zIx K) (tVar 1) (tC (.int 86))) (tCons (tOp (zIx K) (tVar 1) (tC (.int 87))) (tCons (tOp (zIx K) (tVar 1) (tC (.int 88))) (tCons (tOp (zIx K) (tVar 1) (tC (.int 89))) (tCons (tOp (zIx K) (tVar 1) (tC (.int 90))) (tCons (tOp (zIx K) (tVar 1) (tC (.int 91))) (tCons (tOp (zIx K) (tVar 1) (tC (.int 92))) (tCons (tOp (zIx K) (tVar 1) (tC (.int 93))) (tCons (tOp (zIx K) (tVar 1) (tC (.int 94))) (tCons (tOp (zIx K) (tVar 1) (tC (.int 95))) (tCons (tOp (zIx K) (tVar 1) (tC (.int 96))) (tCons (tOp (zIx K) (tVar 1) (tC (.int 97))) (tCons (tOp (zIx K) (tVar 1) (tC (.int 98))) (tCons (tOp (zIx K) (tVar 1) (tC (.int 99))) (tCons (tOp (zIx K) (tVar 1) (tC (.int 100))) (tCons (tOp (zIx K) (tVar 1) (tC (.int 101))) (tCons (tOp (zIx K) (tVar 1) (tC (.int 102))) (tCons (tOp (zIx K) (tVar 1) (tC (.int 103))) (tCons (tOp (zIx K) (tVar 1) (tC (.int 104))) (tCons (tOp (zIx K) (tVar 1) (tC (.int 105))) (tCons (tOp (zIx K) (tVar 1) (tC (.int 106))) (tCons (tOp (zIx K) (tVar 1) (tC (.int 107))) (tCons (tOp (zIx K) (tVar 1) (tC (.int 108))) (tCons (tOp (zIx K) (tVar 1) (tC (.int 109))) (tCons (tOp (zIx K) (tVar 1) (tC (.int 110))) (tCons (tOp (zIx K) (tVar 1) (tC (.int 111))) (tCons (tOp (zIx K) (tVar 1) (tC (.int 112))) (tCons (tOp (zIx K) (tVar 1) (tC (.int 113))) (tCons (tOp (zIx K) (tVar 1) (tC (.int 114))) (tCons (tOp (zIx K) (tVar 1) (tC (.int 115))) (tCons (tOp (zIx K) (tVar 1) (tC (.int 116))) (tCons (tOp (zIx K) (tVar 1) (tC (.int 117))) (tCons (tOp (zIx K) (tVar 1) (tC (.int 118))) (tCons (tOp (zIx K) (tVar 1) (tC (.int 119))) (tCons (tOp (zIx K) (tVar 1) (tC (.int 120))) (tCons (tOp (zIx K) (tVar 1) (tC (.int 121))) (tCons (tOp (zIx K) (tVar 1) (tC (.int 122))) (tCons (tOp (zIx K) (tVar 1) (tC (.int 123))) (tCons (tOp (zIx K) (tVar 1) (tC (.int 124))) (tCons (tOp (zIx K) (tVar 1) (tC (.int 125))) (tCons (tOp (zIx K) (tVar 1) (tC (.int 126))) (tCons (tOp (zIx K) (tVar 1) (tC (.int 127))) (tCons (tOp (zIx K) (tVar 1) (tC (.int 128))) (tCons (tOp (zIx K) (tVar 1) (tC (.int 129))) (tCons (tOp (zIx K) (tVar 1) (tC (.int 130))) (tCons (tOp (zIx K) (tVar 1) (tC (.int 131))) (tCons (tOp (zIx K) (tVar 1) (tC (.int 132))) (tCons (tOp (zIx K) (tVar 1) (tC (.int 133))) (tCons (tOp (zIx K) (tVar 1) (tC (.int 134))) (tCons (tOp (zIx K) (tVar 1) (tC (.int 135))) (tCons (tOp (zIx K) (tVar 1) (tC (.int 136))) (tCons (tOp (zIx K) (tVar 1) (tC (.int 137))) (tCons (tOp (zIx K) (tVar 1) (tC (.int 138))) (tCons (tOp (zIx K) (tVar 1) (tC (.int 139))) (tCons (tOp (zIx K) (tVar 1) (tC (.int 140))) (tCons (tOp (zIx K) (tVar 1) (tC (.int 141))) (tCons (tOp (zIx K) (tVar 1) (tC (.int 142))) (tCons (tOp (zIx K) (tVar 1) (tC (.int 143))) (tCons (tOp (zIx K) (tVar 1) (tC (.int 144))) (tCons (tOp (zIx K) (tVar 1) (tC (.int 145))) (tCons (tOp (zIx K) (tVar 1) (tC (.int 146))) (tCons (tOp (zIx K) (tVar 1) (tC (.int 147))) (tCons (tOp (zIx K) (tVar 1) (tC (.int 148))) (tCons (tOp (zIx K) (tVar 1) (tC (.int 149))) (tCons (tOp (zIx K) (tVar 1) (tC (.int 150))) (tCons (tOp (zIx K) (tVar 1) (tC (.int 151))) (tCons (tOp (zIx K) (tVar 1) (tC (.int 152))) (tCons (tOp (zIx K) (tVar 1) (tC (.int 153))) (tCons (tOp (zIx K) (tVar 1) (tC (.int 154))) (tCons (tOp (zIx K) (tVar 1) (tC (.int 155))) (tCons (tOp (zIx K) (tVar 1) (tC (.int 156))) (tCons (tOp (zIx K) (tVar 1) (tC (.int 157))) (tCons (tOp (zIx K) (tVar 1) (tC (.int 158))) (tCons (tOp (zIx K) (tVar 1) (tC (.int 159))) (tCons (tOp (zIx K) (tVar 1) (tC (.int 160))) (tCons (tOp (zIx K) (tVar 1) (tC (.int 161))) (tCons (tOp (zIx K) (tVar 1) (tC (.int 162))) (tCons (tOp (zIx K) (tVar 1) (tC (.int 163))) (tCons (tOp (zIx K) (tVar 1) (tC (.int 164))) (tCons (tOp (zIx K) (tVar 1) (tC (.int 165))) (tCons (tOp (zIx K) (tVar 1) (tC (.int 166))) (tCons (tOp (zIx K) (tVar 1) (tC (.int 167))) (tCons (tOp (zIx K) (tVar 1) (tC (.int 168))) (tCons (tOp (zIx K) (tVar 1) (tC (.int 169))) (tCons (tOp (zIx K) (tVar 1) (tC (.int 170))) (tCons (tOp (zIx K) (tVar 1) (tC (.int 171))) (tCons (tOp (zIx K) (tVar 1) (tC (.int 172))) (tCons (tOp (zIx K) (tVar 1) (tC (.int 173))) (tCons (tOp (zIx K) (tVar 1) (tC (.int 174))) (tCons (tOp (zIx K) (tVar 1) (tC (.int 175))) (tCons (tOp (zIx K) (tVar 1) (tC (.int 176))) (tCons (tOp (zIx K) (tVar 1) (tC (.int 177))) (tCons (tOp (zIx K) (tVar 1) (tC (.int 178))) (tCons (tOp (zIx K) (tVar 1) (tC (.int 179))) (tCons (tOp (zIx K) (tVar 1) (tC (.int 180))) (tCons (tOp (zIx K) (tVar 1) (tC (.int 181))) (tCons (tOp (zIx K) (tVar 1) (tC (.int 182))) (tCons (tOp (zIx K) (tVar 1) (tC (.int 183))) (tCons (tOp (zIx K) (tVar 1) (tC (.int 184))) (tCons (tOp (zIx K) (tVar 1) (tC (.int 185))) (tCons (tOp (zIx K) (tVar 1) (tC (.int 186))) (tCons (tOp (zIx K) (tVar 1) (tC (.int 187))) (tCons (tOp (zIx K) (tVar 1) (tC (.int 188))) (tCons (tOp (zIx K) (tVar 1) (tC (.int 189))) (tCons (tOp (zIx K) (tVar 1) (tC (.int 190))) (tCons (tOp (zIx K) (tVar 1) (tC (.int 191))) (tCons (tOp (zIx K) (tVar 1) (tC (.int 192))) (tCons (tOp (zIx K) (tVar 1) (tC (.int 193))) (tCons (tOp (zIx K) (tVar 1) (tC (.int 194))) (tCons (tOp (zIx K) (tVar 1) (tC (.int 195))) (tCons (tOp (zIx K) (tVar 1) (tC (.int 196))) (tCons (tOp (zIx K) (tVar 1) (tC (.int 197))) (tCons (tOp (zIx K) (tVar 1) (tC (.int 198))) (tCons (tOp (zIx K) (tVar 1) (tC (.int 199))) tNil))))))))))))))))))))))))))))))))))))))))))))))))))))))))))))))))))))))))))))))))))))))))))))))))))))))))))))))))))))))))))))))))))))))))))))))))))))))))))))))))))))))))))))))))))))))))))))))))))))))))) (tCons (tC (.int 1)) tNil))) (db := fun W => Zeh (Zfs .Lot 2 1 catD Zaz W (dC (.cls .Lot)) (Zaa (dVar 0) (Zaa (dOp uIx (dVar 1) (dC (.int 0))) (Zaa (dOp uIx (dVar 1) (dC (.int 1))) (Zaa (dOp uIx (dVar 1) (dC (.int 2))) (Zaa (dOp uIx (dVar 1) (dC (.int 3))) (Zaa (dOp uIx (dVar 1) (dC (.int 4))) (Zaa (dOp uIx (dVar 1) (dC (.int 5))) (Zaa (dOp uIx (dVar 1) (dC (.int 6))) (Zaa (dOp uIx (dVar 1) (dC (.int 7))) (Zaa (dOp uIx (dVar 1) (dC (.int 8))) (Zaa (dOp uIx (dVar 1) (dC (.int 9))) (Zaa (dOp uIx (dVar 1) (dC (.int 10))) (Zaa (dOp uIx (dVar 1) (dC (.int 11))) (Zaa (dOp uIx (dVar 1) (dC (.int 12))) (Zaa (dOp uIx (dVar 1) (dC (.int 13))) (Zaa (dOp uIx (dVar 1) (dC (.int 14))) (Zaa (dOp uIx (dVar 1) (dC (.int 15))) (Zaa (dOp uIx (dVar 1) (dC (.int 16))) (Zaa (dOp uIx (dVar 1) (dC (.int 17))) (Zaa (dOp uIx (dVar 1) (dC (.int 18))) (Zaa (dOp uIx (dVar 1) (dC (.int 19))) (Zaa (dOp uIx (dVar 1) (dC (.int 20))) (Zaa (dOp uIx (dVar 1) (dC (.int 21))) (Zaa (dOp uIx (dVar 1) (dC (.int 22))) (Zaa (dOp uIx (dVar 1) (dC (.int 23))) (Zaa (dOp uIx (dVar 1) (dC (.int 24))) (Zaa (dOp uIx (dVar 1) (dC (.int 25))) (Zaa (dOp uIx (dVar 1) (dC (.int 26))) (Zaa (dOp uIx (dVar 1) (dC (.int 27))) (Zaa (dOp uIx (dVar 1) (dC (.int 28))) (Zaa (dOp uIx (dVar 1) (dC (.int 29))) (Zaa (dOp uIx (dVar 1) (dC (.int 30))) (Zaa (dOp uIx (dVar 1) (dC (.int 31))) (Zaa (dOp uIx (dVar 1) (dC (.int 32))) (Zaa (dOp uIx (dVar 1) (dC (.int 33))) (Zaa (dOp uIx (dVar 1) (dC (.int 34))) (Zaa (dOp uIx (dVar 1) (dC (.int 35))) (Zaa (dOp uIx (dVar 1) (dC (.int 36))) (Zaa (dOp uIx (dVar 1) (dC (.int 37))) (Zaa (dOp uIx (dVar 1) (dC (.int 38))) (Zaa (dOp uIx (dVar 1) (dC (.int 39))) (Zaa (dOp uIx (dVar 1) (dC (.int 40))) (Zaa (dOp uIx (dVar 1) (dC (.int 41))) (Zaa (dOp uIx (dVar 1) (dC (.int 42))) (Zaa (dOp uIx (dVar 1) (dC (.int 43))) (Zaa (dOp uIx (dVar 1) (dC (.int 44))) (Zaa (dOp uIx (dVar 1) (dC (.int 45))) (Zaa (dOp uIx (dVar 1) (dC (.int 46))) (Zaa (dOp uIx (dVar 1) (dC (.int 47))) (Zaa (dOp uIx (dVar 1) (dC (.int 48))) (Zaa (dOp uIx (dVar 1) (dC (.int 49))) (Zaa (dOp uIx (dVar 1) (dC (.int 50))) (Zaa (dOp uIx (dVar 1) (dC (.int 51))) (Zaa (dOp uIx (dVar 1) (dC (.int 52))) (Zaa (dOp uIx (dVar 1) (dC (.int 53))) (Zaa (dOp uIx (dVar 1) (dC (.int 54))) (Zaa (dOp uIx (dVar 1) (dC (.int 55))) (Zaa (dOp uIx (dVar 1) (dC (.int 56))) (Zaa (dOp uIx (dVar 1) (dC (.int 57))) (Zaa (dOp uIx (dVar 1) (dC (.int 58))) (Zaa (dOp uIx (dVar 1) (dC (.int 59))) (Zaa (dOp uIx (dVar 1) (dC (.int 60))) (Zaa (dOp uIx (dVar 1) (dC (.int 61))) (Zaa (dOp uIx (dVar 1) (dC (.int 62))) (Zaa (dOp uIx (dVar 1) (dC (.int 63))) (Zaa (dOp uIx (dVar 1) (dC (.int 64))) (Zaa (dOp uIx (dVar 1) (dC (.int 65))) (Zaa (dOp uIx (dVar 1) (dC (.int 66))) (Zaa (dOp uIx (dVar 1) (dC (.int 67))) (Zaa (dOp uIx (dVar 1) (dC (.int 68))) (Zaa (dOp uIx (dVar 1) (dC (.int 69))) (Zaa (dOp uIx (dVar 1) (dC (.int 70))) (Zaa (dOp uIx (dVar 1) (dC (.int 71))) (Zaa (dOp uIx (dVar 1) (dC (.int 72))) (Zaa (dOp uIx (dVar 1) (dC (.int 73))) (Zaa (dOp uIx (dVar 1) (dC (.int 74))) (Zaa (dOp uIx (dVar 1) (dC (.int 75))) (Zaa (dOp uIx (dVar 1) (dC (.int 76))) (Zaa (dOp uIx (dVar 1) (dC (.int 77))) (Zaa (dOp uIx (dVar 1) (dC (.int 78))) (Zaa (dOp uIx (dVar 1) (dC (.int 79))) (Zaa (dOp uIx (dVar 1) (dC (.int 80))) (Zaa (dOp uIx (dVar 1) (dC (.int 81))) (Zaa (dOp uIx (dVar 1) (dC (.int 82))) (Zaa (dOp uIx (dVar 1) (dC (.int 83))) (Zaa (dOp uIx (dVar 1) (dC (.int 84))) (Zaa (dOp uIx (dVar 1) (dC (.int 85))) (Zaa (dOp uIx (dVar 1) (dC (.int 86))) (Zaa (dOp uIx (dVar 1) (dC (.int 87))) (Zaa (dOp uIx (dVar 1) (dC (.int 88))) (Zaa (dOp uIx (dVar 1) (dC (.int 89))) (Zaa (dOp uIx (dVar 1) (dC (.int 90))) (Zaa (dOp uIx (dVar 1) (dC (.int 91))) (Zaa (dOp uIx (dVar 1) (dC (.int 92))) (Zaa (dOp uIx (dVar 1) (dC (.int 93))) (Zaa (dOp uIx (dVar 1) (dC (.int 94))) (Zaa (dOp uIx (dVar 1) (dC (.int 95))) (Zaa (dOp uIx (dVar 1) (dC (.int 96))) (Zaa (dOp uIx (dVar 1) (dC (.int 97))) (Zaa (dOp uIx (dVar 1) (dC (.int 98))) (Zaa (dOp uIx (dVar 1) (dC (.int 99))) (Zaa (dOp uIx (dVar 1) (dC (.int 100))) (Zaa (dOp uIx (dVar 1) (dC (.int 101))) (Zaa (dOp uIx (dVar 1) (dC (.int 102))) (Zaa (dOp uIx (dVar 1) (dC (.int 103))) (Zaa (dOp uIx (dVar 1) (dC (.int 104))) (Zaa (dOp uIx (dVar 1) (dC (.int 105))) (Zaa (dOp uIx (dVar 1) (dC (.int 106))) (Zaa (dOp uIx (dVar 1) (dC (.int 107))) (Zaa (dOp uIx (dVar 1) (dC (.int 108))) (Zaa (dOp uIx (dVar 1) (dC (.int 109))) (Zaa (dOp uIx (dVar 1) (dC (.int 110))) (Zaa (dOp uIx (dVar 1) (dC (.int 111))) (Zaa (dOp uIx (dVar 1) (dC (.int 112))) (Zaa (dOp uIx (dVar 1) (dC (.int 113))) (Zaa (dOp uIx (dVar 1) (dC (.int 114))) (Zaa (dOp uIx (dVar 1) (dC (.int 115))) (Zaa (dOp uIx (dVar 1) (dC (.int 116))) (Zaa (dOp uIx (dVar 1) (dC (.int 117))) (Zaa (dOp uIx (dVar 1) (dC (.int 118))) (Zaa (dOp uIx (dVar 1) (dC (.int 119))) (Zaa (dOp uIx (dVar 1) (dC (.int 120))) (Zaa (dOp uIx (dVar 1) (dC (.int 121))) (Zaa (dOp uIx (dVar 1) (dC (.int 122))) (Zaa (dOp uIx (dVar 1) (dC (.int 123))) (Zaa (dOp uIx (dVar 1) (dC (.int 124))) (Zaa (dOp uIx (dVar 1) (dC (.int 125))) (Zaa (dOp uIx (dVar 1) (dC (.int 126))) (Zaa (dOp uIx (dVar 1) (dC (.int 127))) (Zaa (dOp uIx (dVar 1) (dC (.int 128))) (Zaa (dOp uIx (dVar 1) (dC (.int 129))) (Zaa (dOp uIx (dVar 1) (dC (.int 130))) (Zaa (dOp uIx (dVar 1) (dC (.int 131))) (Zaa (dOp uIx (dVar 1) (dC (.int 132))) (Zaa (dOp uIx (dVar 1) (dC (.int 133))) (Zaa (dOp uIx (dVar 1) (dC (.int 134))) (Zaa (dOp uIx (dVar 1) (dC (.int 135))) (Zaa (dOp uIx (dVar 1) (dC (.int 136))) (Zaa (dOp uIx (dVar 1) (dC (.int 137))) (Zaa (dOp uIx (dVar 1) (dC (.int 138))) (Zaa (dOp uIx (dVar 1) (dC (.int 139))) (Zaa (dOp uIx (dVar 1) (dC (.int 140))) (Zaa (dOp uIx (dVar 1) (dC (.int 141))) (Zaa (dOp uIx (dVar 1) (dC (.int 142))) (Zaa (dOp uIx (dVar 1) (dC (.int 143))) (Zaa (dOp uIx (dVar 1) (dC (.int 144))) (Zaa (dOp uIx (dVar 1) (dC (.int 145))) (Zaa (dOp uIx (dVar 1) (dC (.int 146))) (Zaa (dOp uIx (dVar 1) (dC (.int 147))) (Zaa (dOp uIx (dVar 1) (dC (.int 148))) (Zaa (dOp uIx (dVar 1) (dC (.int 149))) (Zaa (dOp uIx (dVar 1) (dC (.int 150))) (Zaa (dOp uIx (dVar 1) (dC (.int 151))) (Zaa (dOp uIx (dVar 1) (dC (.int 152))) (Zaa (dOp uIx (dVar 1) (dC (.int 153))) (Zaa (dOp uIx (dVar 1) (dC (.int 154))) (Zaa (dOp uIx (dVar 1) (dC (.int 155))) (Zaa (dOp uIx (dVar 1) (dC (.int 156))) (Zaa (dOp uIx (dVar 1) (dC (.int 157))) (Zaa (dOp uIx (dVar 1) (dC (.int 158))) (Zaa (dOp uIx (dVar 1) (dC (.int 159))) (Zaa (dOp uIx (dVar 1) (dC (.int 160))) (Zaa (dOp uIx (dVar 1) (dC (.int 161))) (Zaa (dOp uIx (dVar 1) (dC (.int 162))) (Zaa (dOp uIx (dVar 1) (dC (.int 163))) (Zaa (dOp uIx (dVar 1) (dC (.int 164))) (Zaa (dOp uIx (dVar 1) (dC (.int 165))) (Zaa (dOp uIx (dVar 1) (dC (.int 166))) (Zaa (dOp uIx (dVar 1) (dC (.int 167))) (Zaa (dOp uIx (dVar 1) (dC (.int 168))) (Zaa (dOp uIx (dVar 1) (dC (.int 169))) (Zaa (dOp uIx (dVar 1) (dC (.int 170))) (Zaa (dOp uIx (dVar 1) (dC (.int 171))) (Zaa (dOp uIx (dVar 1) (dC (.int 172))) (Zaa (dOp uIx (dVar 1) (dC (.int 173))) (Zaa (dOp uIx (dVar 1) (dC (.int 174))) (Zaa (dOp uIx (dVar 1) (dC (.int 175))) (Zaa (dOp uIx (dVar 1) (dC (.int 176))) (Zaa (dOp uIx (dVar 1) (dC (.int 177))) (Zaa (dOp uIx (dVar 1) (dC (.int 178))) (Zaa (dOp uIx (dVar 1) (dC (.int 179))) (Zaa (dOp uIx (dVar 1) (dC (.int 180))) (Zaa (dOp uIx (dVar 1) (dC (.int 181))) (Zaa (dOp uIx (dVar 1) (dC (.int 182))) (Zaa (dOp uIx (dVar 1) (dC (.int 183))) (Zaa (dOp uIx (dVar 1) (dC (.int 184))) (Zaa (dOp uIx (dVar 1) (dC (.int 185))) (Zaa (dOp uIx (dVar 1) (dC (.int 186))) (Zaa (dOp uIx (dVar 1) (dC (.int 187))) (Zaa (dOp uIx (dVar 1) (dC (.int 188))) (Zaa (dOp uIx (dVar 1) (dC (.int 189))) (Zaa (dOp uIx (dVar 1) (dC (.int 190))) (Zaa (dOp uIx (dVar 1) (dC (.int 191))) (Zaa (dOp uIx (dVar 1) (dC (.int 192))) (Zaa (dOp uIx (dVar 1) (dC (.int 193))) (Zaa (dOp uIx (dVar 1) (dC (.int 194))) (Zaa (dOp uIx (dVar 1) (dC (.int 195))) (Zaa (dOp uIx (dVar 1) (dC (.int 196))) (Zaa (dOp uIx (dVar 1) (dC (.int 197))) (Zaa (dOp uIx (dVar 1) (dC (.int 198))) (Zaa (dOp uIx (dVar 1) (dC (.int 199))) dNil))))))))))))))))))))))))))))))))))))))))))))))))))))))))))))))))))))))))))))))))))))))))))))))))))))))))))))))))))))))))))))))))))))))))))))))))))))))))))))))))))))))))))))))))))))))))))))))))))))))))) (Zaa (dC (.int 1)) dNil))) (ts := fun a cls d => tRet (tXf a cls d (ga K "TooMany") "number" (tVar 2))) (dsu := fun a e => dRet (dXf a e .TooMany .number (dVar 2))) (Wout := fun _ _ _ _ => False) (Wo := fun _ _ _ => False) (fun k b h => by simp only [Qg, Qn, or_false, Prod.mk.injEq] at h; rcases h with ⟨rfl, rfl⟩ <;> first | exact (T.ex 0 rfl)) (fun c1 M1 ok1 W Wd pw => Zbx (Zpg pw (fun _ _ _ _ _ a b => a.append b) (Zjq fun _ => rfl) (by walk_at "sa") (by walk_at "sa"))) (fun a cls d e c1 M1 ok1 rx => Zf2 (Z3p (k := .TooMany) (f := .number) (Same.refl _) rx Zaf)) (fun _ _ _ _ _ _ _ _ _ _ h => False.elim h)) (by walk_at "sa")
theorem Zpo (T : Facts w K mg) (vs : List V) (H : Hp) (Q : VK) (E : XK) (h : Zh3 K vs H Q E) : Zhh PP w K { nx := fun _ H' => Q .non H', rt := Q } (L2.start Zm1 vs) H :=
 Zq3 (N := Zm1) (t := fun _ => Zhh PP w K) (d := fun _ => Zhk) (fun S E Ed hK hc px => by obtain ⟨K, cs, c0, M0⟩ := S; cases hK; cases hc; exact Zr4 T c0 M0) Zsa vs H Q E h
theorem Zsg (vs : List V) (H : Hp) (Q : VK) (E : XK) (h : Zh3 K vs H Q E) : vs.length = 2 := Zdi Zn9 vs H Q E h
theorem Znr : FnScope Zm1 ["_law_alphabet", "_law_t"] (defScope Zta) := ⟨rfl, rfl, rfl, by decide +kernel, rfl, by decide +kernel, by decide +kernel⟩
theorem Zwg (T : Facts w K mg) : Binds K (fdOf K ("_law_over", none)) ["_law_alphabet", "_law_t"] [] := (T.F 27 rfl).bindsN fun _ _ _ _ _ _ us hl => match us, hl with | [_, _], _ => rfl
theorem Zui (T : Facts w K mg) : FnOk PP w K mg base (L2.CX PP w) 12 (fAd K ("_law_over", none)) (fdOf K ("_law_over", none)) ["_law_alphabet", "_law_t"] (Zh3 K) := by
 refine (T.F 27 rfl).ok Znr (fun vs H Q E h => Zsg vs H Q E h) (fun cdv A outer s H vs Q E hr h => ⟨Zhh PP w K, PSs.nox ?_, Zpo T vs H Q E h⟩)
 exact pss_cons (ps_try_as (i := 2) (tb := fun (W : WX) => tDrop (Ze7 (ga K "Lot") 2 1 catV (Zdv K) (WE W) (tC (.ref (ga K "Lot"))) (tCons (tVar 0) (tCons (tOp (zIx K) (tVar 1) (tC (.int 0))) (tCons (tOp (zIx K) (tVar 1) (tC (.int 1))) (tCons (tOp (zIx K) (tVar 1) (tC (.int 2))) (tCons (tOp (zIx K) (tVar 1) (tC (.int 3))) (tCons (tOp (zIx K) (tVar 1) (tC (.int 4))) (tCons (tOp (zIx K) (tVar 1) (tC (.int 5))) (tCons (tOp (zIx K) (tVar 1) (tC (.int 6))) (tCons (tOp (zIx K) (tVar 1) (tC (.int 7))) (tCons (tOp (zIx K) (tVar 1) (tC (.int 8))) (tCons (tOp (zIx K) (tVar 1) (tC (.int 9))) (tCons (tOp (zIx K) (tVar 1) (tC (.int 10))) (tCons (tOp (zIx K) (tVar 1) (tC (.int 11))) (tCons (tOp (zIx K) (tVar 1) (tC (.int 12))) (tCons (tOp (zIx K) (tVar 1) (tC (.int 13))) (tCons (tOp (zIx K) (tVar 1) (tC (.int 14))) (tCons (tOp (zIx K) (tVar 1) (tC (.int 15))) (tCons (tOp (zIx K) (tVar 1) (tC (.int 16))) (tCons (tOp (zIx K) (tVar 1) (tC (.int 17))) (tCons (tOp (zIx K) (tVar 1) (tC (.int 18))) (tCons (tOp (zIx K) (tVar 1) (tC (.int 19))) (tCons (tOp (zIx K) (tVar 1) (tC (.int 20))) (tCons (tOp (zIx K) (tVar 1) (tC (.int 21))) (tCons (tOp (zIx K) (tVar 1) (tC (.int 22))) (tCons (tOp (zIx K) (tVar 1) (tC (.int 23))) (tCons (tOp (zIx K) (tVar 1) (tC (.int 24))) (tCons (tOp (zIx K) (tVar 1) (tC (.int 25))) (tCons (tOp (zIx K) (tVar 1) (tC (.int 26))) (tCons (tOp (zIx K) (tVar 1) (tC (.int 27))) (tCons (tOp (zIx K) (tVar 1) (tC (.int 28))) (tCons (tOp (zIx K) (tVar 1) (tC (.int 29))) (tCons (tOp (zIx K) (tVar 1) (tC (.int 30))) (tCons (tOp (zIx K) (tVar 1) (tC (.int 31))) (tCons (tOp (zIx K) (tVar 1) (tC (.int 32))) (tCons (tOp (zIx K) (tVar 1) (tC (.int 33))) (tCons (tOp (zIx K) (tVar 1) (tC (.int 34))) (tCons (tOp (zIx K) (tVar 1) (tC (.int 35))) (tCons (tOp (zIx K) (tVar 1) (tC (.int 36))) (tCons (tOp (zIx K) (tVar 1) (tC (.int 37))) (tCons (tOp (zIx K) (tVar 1) (tC (.int 38))) (tCons (tOp (zIx K) (tVar 1) (tC (.int 39))) (tCons (tOp (zIx K) (tVar 1) (tC (.int 40))) (tCons (tOp (zIx K) (tVar 1) (tC (.int 41))) (tCons (tOp (zIx K) (tVar 1) (tC (.int 42))) (tCons (tOp (zIx K) (tVar 1) (tC (.int 43))) (tCons (tOp (zIx K) (tVar 1) (tC (.int 44))) (tCons (tOp (zIx K) (tVar 1) (tC (.int 45))) (tCons (tOp (zIx K) (tVar 1) (tC (.int 46))) (tCons (tOp (zIx K) (tVar 1) (tC (.int 47))) (tCons (tOp (zIx K) (tVar 1) (tC (.int 48))) (tCons (tOp (zIx K) (tVar 1) (tC (.int 49))) (tCons (tOp (zIx K) (tVar 1) (tC (.int 50))) (tCons (tOp (zIx K) (tVar 1) (tC (.int 51))) (tCons (tOp (zIx K) (tVar 1) (tC (.int 52))) (tCons (tOp (zIx K) (tVar 1) (tC (.int 53))) (tCons (tOp (zIx K) (tVar 1) (tC (.int 54))) (tCons (tOp (zIx K) (tVar 1) (tC (.int 55))) (tCons (tOp (zIx K) (tVar 1) (tC (.int 56))) (tCons (tOp (zIx K) (tVar 1) (tC (.int 57))) (tCons (tOp (zIx K) (tVar 1) (tC (.int 58))) (tCons (tOp (zIx K) (tVar 1) (tC (.int 59))) (tCons (tOp (zIx K) (tVar 1) (tC (.int 60))) (tCons (tOp (zIx K) (tVar 1) (tC (.int 61))) (tCons (tOp (zIx K) (tVar 1) (tC (.int 62))) (tCons (tOp (zIx K) (tVar 1) (tC (.int 63))) (tCons (tOp (zIx K) (tVar 1) (tC (.int 64))) (tCons (tOp (zIx K) (tVar 1) (tC (.int 65))) (tCons (tOp (zIx K) (tVar 1) (tC (.int 66))) (tCons (tOp (zIx K) (tVar 1) (tC (.int 67))) (tCons (tOp (zIx K) (tVar 1) (tC (.int 68))) (tCons (tOp (zIx K) (tVar 1) (tC (.int 69))) (tCons (tOp (zIx K) (tVar 1) (tC (.int 70))) (tCons (tOp (zIx K) (tVar 1) (tC (.int 71))) (tCons (tOp (zIx K) (tVar 1) (tC (.int 72))) (tCons (tOp (zIx K) (tVar 1) (tC (.int 73))) (tCons (tOp (zIx K) (tVar 1) (tC (.int 74))) (tCons (tOp (zIx K) (tVar 1) (tC (.int 75))) (tCons (tOp (zIx K) (tVar 1) (tC (.int 76))) (tCons (tOp (zIx K) (tVar 1) (tC (.int 77))) (tCons (tOp (zIx K) (tVar 1) (tC (.int 78))) (tCons (tOp (zIx K) (tVar 1) (tC (.int 79))) (tCons (tOp (zIx K) (tVar 1) (tC (.int 80))) (tCons (tOp (zIx K) (tVar 1) (tC (.int 81))) (tCons (tOp (zIx K) (tVar 1) (tC (.int 82))) (tCons (tOp (zIx K) (tVar 1) (tC (.int 83))) (tCons (tOp (zIx K) (tVar 1) (tC (.int 84))) (tCons (tOp (zIx K) (tVar 1) (tC (.int 85))) (tCons (tOp (zIx K) (tVar 1) (tC (.int 86))) (tCons (tOp (zIx K) (tVar 1) (tC (.int 87))) (tCons (tOp (zIx K) (tVar 1) (tC (.int 88))) (tCons (tOp (zIx K) (tVar 1) (tC (.int 89))) (tCons (tOp (zIx K) (tVar 1) (tC (.int 90))) (tCons (tOp (zIx K) (tVar 1) (tC (.int 91))) (tCons (tOp (zIx K) (tVar 1) (tC (.int 92))) (tCons (tOp (zIx K) (tVar 1) (tC (.int 93))) (tCons (tOp (zIx K) (tVar 1) (tC (.int 94))) (tCons (tOp (zIx K) (tVar 1) (tC (.int 95))) (tCons (tOp (zIx K) (tVar 1) (tC (.int 96))) (tCons (tOp (zIx K) (tVar 1) (tC (.int 97))) (tCons (tOp (zIx K) (tVar 1) (tC (.int 98))) (tCons (tOp (zIx K) (tVar 1) (tC (.int 99))) (tCons (tOp (zIx K) (tVar 1) (tC (.int 100))) (tCons (tOp (zIx K) (tVar 1) (tC (.int 101))) (tCons (tOp (zIx K) (tVar 1) (tC (.int 102))) (tCons (tOp (zIx K) (tVar 1) (tC (.int 103))) (tCons (tOp (zIx K) (tVar 1) (tC (.int 104))) (tCons (tOp (zIx K) (tVar 1) (tC (.int 105))) (tCons (tOp (zIx K) (tVar 1) (tC (.int 106))) (tCons (tOp (zIx K) (tVar 1) (tC (.int 107))) (tCons (tOp (zIx K) (tVar 1) (tC (.int 108))) (tCons (tOp (zIx K) (tVar 1) (tC (.int 109))) (tCons (tOp (zIx K) (tVar 1) (tC (.int 110))) (tCons (tOp (zIx K) (tVar 1) (tC (.int 111))) (tCons (tOp (zIx K) (tVar 1) (tC (.int 112))) (tCons (tOp (zIx K) (tVar 1) (tC (.int 113))) (tCons (tOp (zIx K) (tVar 1) (tC (.int 114))) (tCons (tOp (zIx K) (tVar 1) (tC (.int 115))) (tCons (tOp (zIx K) (tVar 1) (tC (.int 116))) (tCons (tOp (zIx K) (tVar 1) (tC (.int 117))) (tCons (tOp (zIx K) (tVar 1) (tC (.int 118))) (tCons (tOp (zIx K) (tVar 1) (tC (.int 119))) (tCons (tOp (zIx K) (tVar 1) (tC (.int 120))) (tCons (tOp (zIx K) (tVar 1) (tC (.int 121))) (tCons (tOp (zIx K) (tVar 1) (tC (.int 122))) (tCons (tOp (zIx K) (tVar 1) (tC (.int 123))) (tCons (tOp (zIx K) (tVar 1) (tC (.int 124))) (tCons (tOp (zIx K) (tVar 1) (tC (.int 125))) (tCons (tOp (zIx K) (tVar 1) (tC (.int 126))) (tCons (tOp (zIx K) (tVar 1) (tC (.int 127))) (tCons (tOp (zIx K) (tVar 1) (tC (.int 128))) (tCons (tOp (zIx K) (tVar 1) (tC (.int 129))) (tCons (tOp (zIx K) (tVar 1) (tC (.int 130))) (tCons (tOp (zIx K) (tVar 1) (tC (.int 131))) (tCons (tOp (zIx K) (tVar 1) (tC (.int 132))) (tCons (tOp (zIx K) (tVar 1) (tC (.int 133))) (tCons (tOp (zIx K) (tVar 1) (tC (.int 134))) (tCons (tOp (zIx K) (tVar 1) (tC (.int 135))) (tCons (tOp (zIx K) (tVar 1) (tC (.int 136))) (tCons (tOp (zIx K) (tVar 1) (tC (.int 137))) (tCons (tOp (zIx K) (tVar 1) (tC (.int 138))) (tCons (tOp (zIx K) (tVar 1) (tC (.int 139))) (tCons (tOp (zIx K) (tVar 1) (tC (.int 140))) (tCons (tOp (zIx K) (tVar 1) (tC (.int 141))) (tCons (tOp (zIx K) (tVar 1) (tC (.int 142))) (tCons (tOp (zIx K) (tVar 1) (tC (.int 143))) (tCons (tOp (zIx K) (tVar 1) (tC (.int 144))) (tCons (tOp (zIx K) (tVar 1) (tC (.int 145))) (tCons (tOp (zIx K) (tVar 1) (tC (.int 146))) (tCons (tOp (zIx K) (tVar 1) (tC (.int 147))) (tCons (tOp (zIx K) (tVar 1) (tC (.int 148))) (tCons (tOp (zIx K) (tVar 1) (tC (.int 149))) (tCons (tOp (zIx K) (tVar 1) (tC (.int 150))) (tCons (tOp (zIx K) (tVar 1) (tC (.int 151))) (tCons (tOp (zIx K) (tVar 1) (tC (.int 152))) (tCons (tOp (zIx K) (tVar 1) (tC (.int 153))) (tCons (tOp (zIx K) (tVar 1) (tC (.int 154))) (tCons (tOp (zIx K) (tVar 1) (tC (.int 155))) (tCons (tOp (zIx K) (tVar 1) (tC (.int 156))) (tCons (tOp (zIx K) (tVar 1) (tC (.int 157))) (tCons (tOp (zIx K) (tVar 1) (tC (.int 158))) (tCons (tOp (zIx K) (tVar 1) (tC (.int 159))) (tCons (tOp (zIx K) (tVar 1) (tC (.int 160))) (tCons (tOp (zIx K) (tVar 1) (tC (.int 161))) (tCons (tOp (zIx K) (tVar 1) (tC (.int 162))) (tCons (tOp (zIx K) (tVar 1) (tC (.int 163))) (tCons (tOp (zIx K) (tVar 1) (tC (.int 164))) (tCons (tOp (zIx K) (tVar 1) (tC (.int 165))) (tCons (tOp (zIx K) (tVar 1) (tC (.int 166))) (tCons (tOp (zIx K) (tVar 1) (tC (.int 167))) (tCons (tOp (zIx K) (tVar 1) (tC (.int 168))) (tCons (tOp (zIx K) (tVar 1) (tC (.int 169))) (tCons (tOp (zIx K) (tVar 1) (tC (.int 170))) (tCons (tOp (zIx K) (tVar 1) (tC (.int 171))) (tCons (tOp (zIx K) (tVar 1) (tC (.int 172))) (tCons (tOp (zIx K) (tVar 1) (tC (.int 173))) (tCons (tOp (zIx K) (tVar 1) (tC (.int 174))) (tCons (tOp (zIx K) (tVar 1) (tC (.int 175))) (tCons (tOp (zIx K) (tVar 1) (tC (.int 176))) (tCons (tOp (zIx K) (tVar 1) (tC (.int 177))) (tCons (tOp (zIx K) (tVar 1) (tC (.int 178))) (tCons (tOp (zIx K) (tVar 1) (tC (.int 179))) (tCons (tOp (zIx K) (tVar 1) (tC (.int 180))) (tCons (tOp (zIx K) (tVar 1) (tC (.int 181))) (tCons (tOp (zIx K) (tVar 1) (tC (.int 182))) (tCons (tOp (zIx K) (tVar 1) (tC (.int 183))) (tCons (tOp (zIx K) (tVar 1) (tC (.int 184))) (tCons (tOp (zIx K) (tVar 1) (tC (.int 185))) (tCons (tOp (zIx K) (tVar 1) (tC (.int 186))) (tCons (tOp (zIx K) (tVar 1) (tC (.int 187))) (tCons (tOp (zIx K) (tVar 1) (tC (.int 188))) (tCons (tOp (zIx K) (tVar 1) (tC (.int 189))) (tCons (tOp (zIx K) (tVar 1) (tC (.int 190))) (tCons (tOp (zIx K) (tVar 1) (tC (.int 191))) (tCons (tOp (zIx K) (tVar 1) (tC (.int 192))) (tCons (tOp (zIx K) (tVar 1) (tC (.int 193))) (tCons (tOp (zIx K) (tVar 1) (tC (.int 194))) (tCons (tOp (zIx K) (tVar 1) (tC (.int 195))) (tCons (tOp (zIx K) (tVar 1) (tC (.int 196))) (tCons (tOp (zIx K) (tVar 1) (tC (.int 197))) (tCons (tOp (zIx K) (tVar 1) (tC (.int 198))) (tCons (tOp (zIx K) (tVar 1) (tC (.int 199))) tNil))))))))))))))))))))))))))))))))))))))))))))))))))))))))))))))))))))))))))))))))))))))))))))))))))))))))))))))))))))))))))))))))))))))))))))))))))))))))))))))))))))))))))))))))))))))))))))))))))))))))) (tCons (tC (.int 1)) tNil))) (ts := fun a cls d => tRet (tXf a cls d (ga K "TooMany") "number" (tVar 2))) (Wout := fun _ _ _ _ => False) rfl rfl Znr.nd rfl rfl ⟨rfl, by decide, Or.inl (T.g 13 rfl)⟩ takes0 (fun W pn xe tk _ => pss_one (ps_expr (Zpr (ks := ["depth"]) (pe_glob rfl (T.g 8 rfl) rfl) (T.cr 1 rfl) ((T.cm 1 rfl rfl)).choose_spec (Zfg T) (hr.mono (by decide)) (fun σ => passAt tk σ) (pa_cons (pv 0) (pa_cons (pe_ix Zab (pv 1) pe_int (fun _ _ => rfl)) (pa_cons (pe_ix Zab (pv 1) pe_int (fun _ _ => rfl)) (pa_cons (pe_ix Zab (pv 1) pe_int (fun _ _ => rfl)) (pa_cons (pe_ix Zab (pv 1) pe_int (fun _ _ => rfl)) (pa_cons (pe_ix Zab (pv 1) pe_int (fun _ _ => rfl)) (pa_cons (pe_ix Zab (pv 1) pe_int (fun _ _ => rfl)) (pa_cons (pe_ix Zab (pv 1) pe_int (fun _ _ => rfl)) (pa_cons (pe_ix Zab (pv 1) pe_int (fun _ _ => rfl)) (pa_cons (pe_ix Zab (pv 1) pe_int (fun _ _ => rfl)) (pa_cons (pe_ix Zab (pv 1) pe_int (fun _ _ => rfl)) (pa_cons (pe_ix Zab (pv 1) pe_int (fun _ _ => rfl)) (pa_cons (pe_ix Zab (pv 1) pe_int (fun _ _ => rfl)) (pa_cons (pe_ix Zab (pv 1) pe_int (fun _ _ => rfl)) (pa_cons (pe_ix Zab (pv 1) pe_int (fun _ _ => rfl)) (pa_cons (pe_ix Zab (pv 1) pe_int (fun _ _ => rfl)) (pa_cons (pe_ix Zab (pv 1) pe_int (fun _ _ => rfl)) (pa_cons (pe_ix Zab (pv 1) pe_int (fun _ _ => rfl)) (pa_cons (pe_ix Zab (pv 1) pe_int (fun _ _ => rfl)) (pa_cons (pe_ix Zab (pv 1) pe_int (fun _ _ => rfl)) (pa_cons (pe_ix Zab (pv 1) pe_int (fun _ _ => rfl)) (pa_cons (pe_ix Zab (pv 1) pe_int (fun _ _ => rfl)) (pa_cons (pe_ix Zab (pv 1) pe_int (fun _ _ => rfl)) (pa_cons (pe_ix Zab (pv 1) pe_int (fun _ _ => rfl)) (pa_cons (pe_ix Zab (pv 1) pe_int (fun _ _ => rfl)) (pa_cons (pe_ix Zab (pv 1) pe_int (fun _ _ => rfl)) (pa_cons (pe_ix Zab (pv 1) pe_int (fun _ _ => rfl)) (pa_cons (pe_ix Zab (pv 1) pe_int (fun _ _ => rfl)) (pa_cons (pe_ix Zab (pv 1) pe_int (fun _ _ => rfl)) (pa_cons (pe_ix Zab (pv 1) pe_int (fun _ _ => rfl)) (pa_cons (pe_ix Zab (pv 1) pe_int (fun _ _ => rfl)) (pa_cons (pe_ix Zab (pv 1) pe_int (fun _ _ => rfl)) (pa_cons (pe_ix Zab (pv 1) pe_int (fun _ _ => rfl)) (pa_cons (pe_ix Zab (pv 1) pe_int (fun _ _ => rfl)) (pa_cons (pe_ix Zab (pv 1) pe_int (fun _ _ => rfl)) (pa_cons (pe_ix Zab (pv 1) pe_int (fun _ _ => rfl)) (pa_cons (pe_ix Zab (pv 1) pe_int (fun _ _ => rfl)) (pa_cons (pe_ix Zab (pv 1) pe_int (fun _ _ => rfl)) (pa_cons (pe_ix Zab (pv 1) pe_int (fun _ _ => rfl)) (pa_cons (pe_ix Zab (pv 1) pe_int (fun _ _ => rfl)) (pa_cons (pe_ix Zab (pv 1) pe_int (fun _ _ => rfl)) (pa_cons (pe_ix Zab (pv 1) pe_int (fun _ _ => rfl)) (pa_cons (pe_ix Zab (pv 1) pe_int (fun _ _ => rfl)) (pa_cons (pe_ix Zab (pv 1) pe_int (fun _ _ => rfl)) (pa_cons (pe_ix Zab (pv 1) pe_int (fun _ _ => rfl)) (pa_cons (pe_ix Zab (pv 1) pe_int (fun _ _ => rfl)) (pa_cons (pe_ix Zab (pv 1) pe_int (fun _ _ => rfl)) (pa_cons (pe_ix Zab (pv 1) pe_int (fun _ _ => rfl)) (pa_cons (pe_ix Zab (pv 1) pe_int (fun _ _ => rfl)) (pa_cons (pe_ix Zab (pv 1) pe_int (fun _ _ => rfl)) (pa_cons (pe_ix Zab (pv 1) pe_int (fun _ _ => rfl)) (pa_cons (pe_ix Zab (pv 1) pe_int (fun _ _ => rfl)) (pa_cons (pe_ix Zab (pv 1) pe_int (fun _ _ => rfl)) (pa_cons (pe_ix Zab (pv 1) pe_int (fun _ _ => rfl)) (pa_cons (pe_ix Zab (pv 1) pe_int (fun _ _ => rfl)) (pa_cons (pe_ix Zab (pv 1) pe_int (fun _ _ => rfl)) (pa_cons (pe_ix Zab (pv 1) pe_int (fun _ _ => rfl)) (pa_cons (pe_ix Zab (pv 1) pe_int (fun _ _ => rfl)) (pa_cons (pe_ix Zab (pv 1) pe_int (fun _ _ => rfl)) (pa_cons (pe_ix Zab (pv 1) pe_int (fun _ _ => rfl)) (pa_cons (pe_ix Zab (pv 1) pe_int (fun _ _ => rfl)) (pa_cons (pe_ix Zab (pv 1) pe_int (fun _ _ => rfl)) (pa_cons (pe_ix Zab (pv 1) pe_int (fun _ _ => rfl)) (pa_cons (pe_ix Zab (pv 1) pe_int (fun _ _ => rfl)) (pa_cons (pe_ix Zab (pv 1) pe_int (fun _ _ => rfl)) (pa_cons (pe_ix Zab (pv 1) pe_int (fun _ _ => rfl)) (pa_cons (pe_ix Zab (pv 1) pe_int (fun _ _ => rfl)) (pa_cons (pe_ix Zab (pv 1) pe_int (fun _ _ => rfl)) (pa_cons (pe_ix Zab (pv 1) pe_int (fun _ _ => rfl)) (pa_cons (pe_ix Zab (pv 1) pe_int (fun _ _ => rfl)) (pa_cons (pe_ix Zab (pv 1) pe_int (fun _ _ => rfl)) (pa_cons (pe_ix Zab (pv 1) pe_int (fun _ _ => rfl)) (pa_cons (pe_ix Zab (pv 1) pe_int (fun _ _ => rfl)) (pa_cons (pe_ix Zab (pv 1) pe_int (fun _ _ => rfl)) (pa_cons (pe_ix Zab (pv 1) pe_int (fun _ _ => rfl)) (pa_cons (pe_ix Zab (pv 1) pe_int (fun _ _ => rfl)) (pa_cons (pe_ix Zab (pv 1) pe_int (fun _ _ => rfl)) (pa_cons (pe_ix Zab (pv 1) pe_int (fun _ _ => rfl)) (pa_cons (pe_ix Zab (pv 1) pe_int (fun _ _ => rfl)) (pa_cons (pe_ix Zab (pv 1) pe_int (fun _ _ => rfl)) (pa_cons (pe_ix Zab (pv 1) pe_int (fun _ _ => rfl)) (pa_cons (pe_ix Zab (pv 1) pe_int (fun _ _ => rfl)) (pa_cons (pe_ix Zab (pv 1) pe_int (fun _ _ => rfl)) (pa_cons (pe_ix Zab (pv 1) pe_int (fun _ _ => rfl)) (pa_cons (pe_ix Zab (pv 1) pe_int (fun _ _ => rfl)) (pa_cons (pe_ix Zab (pv 1) pe_int (fun _ _ => rfl)) (pa_cons (pe_ix Zab (pv 1) pe_int (fun _ _ => rfl)) (pa_cons (pe_ix Zab (pv 1) pe_int (fun _ _ => rfl)) (pa_cons (pe_ix Zab (pv 1) pe_int (fun _ _ => rfl)) (pa_cons (pe_ix Zab (pv 1) pe_int (fun _ _ => rfl)) (pa_cons (pe_ix Zab (pv 1) pe_int (fun _ _ => rfl)) (pa_cons (pe_ix Zab (pv 1) pe_int (fun _ _ => rfl)) (pa_cons (pe_ix Zab (pv 1) pe_int (fun _ _ => rfl)) (pa_cons (pe_ix Zab (pv 1) pe_int (fun _ _ => rfl)) (pa_cons (pe_ix Zab (pv 1) pe_int (fun _ _ => rfl)) (pa_cons (pe_ix Zab (pv 1) pe_int (fun _ _ => rfl)) (pa_cons (pe_ix Zab (pv 1) pe_int (fun _ _ => rfl)) (pa_cons (pe_ix Zab (pv 1) pe_int (fun _ _ => rfl)) (pa_cons (pe_ix Zab (pv 1) pe_int (fun _ _ => rfl)) (pa_cons (pe_ix Zab (pv 1) pe_int (fun _ _ => rfl)) (pa_cons (pe_ix Zab (pv 1) pe_int (fun _ _ => rfl)) (pa_cons (pe_ix Zab (pv 1) pe_int (fun _ _ => rfl)) (pa_cons (pe_ix Zab (pv 1) pe_int (fun _ _ => rfl)) (pa_cons (pe_ix Zab (pv 1) pe_int (fun _ _ => rfl)) (pa_cons (pe_ix Zab (pv 1) pe_int (fun _ _ => rfl)) (pa_cons (pe_ix Zab (pv 1) pe_int (fun _ _ => rfl)) (pa_cons (pe_ix Zab (pv 1) pe_int (fun _ _ => rfl)) (pa_cons (pe_ix Zab (pv 1) pe_int (fun _ _ => rfl)) (pa_cons (pe_ix Zab (pv 1) pe_int (fun _ _ => rfl)) (pa_cons (pe_ix Zab (pv 1) pe_int (fun _ _ => rfl)) (pa_cons (pe_ix Zab (pv 1) pe_int (fun _ _ => rfl)) (pa_cons (pe_ix Zab (pv 1) pe_int (fun _ _ => rfl)) (pa_cons (pe_ix Zab (pv 1) pe_int (fun _ _ => rfl)) (pa_cons (pe_ix Zab (pv 1) pe_int (fun _ _ => rfl)) (pa_cons (pe_ix Zab (pv 1) pe_int (fun _ _ => rfl)) (pa_cons (pe_ix Zab (pv 1) pe_int (fun _ _ => rfl)) (pa_cons (pe_ix Zab (pv 1) pe_int (fun _ _ => rfl)) (pa_cons (pe_ix Zab (pv 1) pe_int (fun _ _ => rfl)) (pa_cons (pe_ix Zab (pv 1) pe_int (fun _ _ => rfl)) (pa_cons (pe_ix Zab (pv 1) pe_int (fun _ _ => rfl)) (pa_cons (pe_ix Zab (pv 1) pe_int (fun _ _ => rfl)) (pa_cons (pe_ix Zab (pv 1) pe_int (fun _ _ => rfl)) (pa_cons (pe_ix Zab (pv 1) pe_int (fun _ _ => rfl)) (pa_cons (pe_ix Zab (pv 1) pe_int (fun _ _ => rfl)) (pa_cons (pe_ix Zab (pv 1) pe_int (fun _ _ => rfl)) (pa_cons (pe_ix Zab (pv 1) pe_int (fun _ _ => rfl)) (pa_cons (pe_ix Zab (pv 1) pe_int (fun _ _ => rfl)) (pa_cons (pe_ix Zab (pv 1) pe_int (fun _ _ => rfl)) (pa_cons (pe_ix Zab (pv 1) pe_int (fun _ _ => rfl)) (pa_cons (pe_ix Zab (pv 1) pe_int (fun _ _ => rfl)) (pa_cons (pe_ix Zab (pv 1) pe_int (fun _ _ => rfl)) (pa_cons (pe_ix Zab (pv 1) pe_int (fun _ _ => rfl)) (pa_cons (pe_ix Zab (pv 1) pe_int (fun _ _ => rfl)) (pa_cons (pe_ix Zab (pv 1) pe_int (fun _ _ => rfl)) (pa_cons (pe_ix Zab (pv 1) pe_int (fun _ _ => rfl)) (pa_cons (pe_ix Zab (pv 1) pe_int (fun _ _ => rfl)) (pa_cons (pe_ix Zab (pv 1) pe_int (fun _ _ => rfl)) (pa_cons (pe_ix Zab (pv 1) pe_int (fun _ _ => rfl)) (pa_cons (pe_ix Zab (pv 1) pe_int (fun _ _ => rfl)) (pa_cons (pe_ix Zab (pv 1) pe_int (fun _ _ => rfl)) (pa_cons (pe_ix Zab (pv 1) pe_int (fun _ _ => rfl)) (pa_cons (pe_ix Zab (pv 1) pe_int (fun _ _ => rfl)) (pa_cons (pe_ix Zab (pv 1) pe_int (fun _ _ => rfl)) (pa_cons (pe_ix Zab (pv 1) pe_int (fun _ _ => rfl)) (pa_cons (pe_ix Zab (pv 1) pe_int (fun _ _ => rfl)) (pa_cons (pe_ix Zab (pv 1) pe_int (fun _ _ => rfl)) (pa_cons (pe_ix Zab (pv 1) pe_int (fun _ _ => rfl)) (pa_cons (pe_ix Zab (pv 1) pe_int (fun _ _ => rfl)) (pa_cons (pe_ix Zab (pv 1) pe_int (fun _ _ => rfl)) (pa_cons (pe_ix Zab (pv 1) pe_int (fun _ _ => rfl)) (pa_cons (pe_ix Zab (pv 1) pe_int (fun _ _ => rfl)) (pa_cons (pe_ix Zab (pv 1) pe_int (fun _ _ => rfl)) (pa_cons (pe_ix Zab (pv 1) pe_int (fun _ _ => rfl)) (pa_cons (pe_ix Zab (pv 1) pe_int (fun _ _ => rfl)) (pa_cons (pe_ix Zab (pv 1) pe_int (fun _ _ => rfl)) (pa_cons (pe_ix Zab (pv 1) pe_int (fun _ _ => rfl)) (pa_cons (pe_ix Zab (pv 1) pe_int (fun _ _ => rfl)) (pa_cons (pe_ix Zab (pv 1) pe_int (fun _ _ => rfl)) (pa_cons (pe_ix Zab (pv 1) pe_int (fun _ _ => rfl)) (pa_cons (pe_ix Zab (pv 1) pe_int (fun _ _ => rfl)) (pa_cons (pe_ix Zab (pv 1) pe_int (fun _ _ => rfl)) (pa_cons (pe_ix Zab (pv 1) pe_int (fun _ _ => rfl)) (pa_cons (pe_ix Zab (pv 1) pe_int (fun _ _ => rfl)) (pa_cons (pe_ix Zab (pv 1) pe_int (fun _ _ => rfl)) (pa_cons (pe_ix Zab (pv 1) pe_int (fun _ _ => rfl)) (pa_cons (pe_ix Zab (pv 1) pe_int (fun _ _ => rfl)) (pa_cons (pe_ix Zab (pv 1) pe_int (fun _ _ => rfl)) (pa_cons (pe_ix Zab (pv 1) pe_int (fun _ _ => rfl)) (pa_cons (pe_ix Zab (pv 1) pe_int (fun _ _ => rfl)) (pa_cons (pe_ix Zab (pv 1) pe_int (fun _ _ => rfl)) (pa_cons (pe_ix Zab (pv 1) pe_int (fun _ _ => rfl)) (pa_cons (pe_ix Zab (pv 1) pe_int (fun _ _ => rfl)) (pa_cons (pe_ix Zab (pv 1) pe_int (fun _ _ => rfl)) (pa_cons (pe_ix Zab (pv 1) pe_int (fun _ _ => rfl)) (pa_cons (pe_ix Zab (pv 1) pe_int (fun _ _ => rfl)) (pa_cons (pe_ix Zab (pv 1) pe_int (fun _ _ => rfl)) (pa_cons (pe_ix Zab (pv 1) pe_int (fun _ _ => rfl)) (pa_cons (pe_ix Zab (pv 1) pe_int (fun _ _ => rfl)) (pa_cons (pe_ix Zab (pv 1) pe_int (fun _ _ => rfl)) (pa_cons (pe_ix Zab (pv 1) pe_int (fun _ _ => rfl)) (pa_cons (pe_ix Zab (pv 1) pe_int (fun _ _ => rfl)) (pa_cons (pe_ix Zab (pv 1) pe_int (fun _ _ => rfl)) (pa_cons (pe_ix Zab (pv 1) pe_int (fun _ _ => rfl)) (pa_cons (pe_ix Zab (pv 1) pe_int (fun _ _ => rfl)) (pa_cons (pe_ix Zab (pv 1) pe_int (fun _ _ => rfl)) (pa_cons (pe_ix Zab (pv 1) pe_int (fun _ _ => rfl)) (pa_cons (pe_ix Zab (pv 1) pe_int (fun _ _ => rfl)) (pa_cons (pe_ix Zab (pv 1) pe_int (fun _ _ => rfl)) (pa_cons (pe_ix Zab (pv 1) pe_int (fun _ _ => rfl)) (pa_cons (pe_ix Zab (pv 1) pe_int (fun _ _ => rfl)) (pa_cons (pe_ix Zab (pv 1) pe_int (fun _ _ => rfl)) (pa_cons (pe_ix Zab (pv 1) pe_int (fun _ _ => rfl)) (pa_cons (pe_ix Zab (pv 1) pe_int (fun _ _ => rfl)) (pa_cons (pe_ix Zab (pv 1) pe_int (fun _ _ => rfl)) (pa_cons (pe_ix Zab (pv 1) pe_int (fun _ _ => rfl)) (pa_cons (pe_ix Zab (pv 1) pe_int (fun _ _ => rfl)) (pa_cons (pe_ix Zab (pv 1) pe_int (fun _ _ => rfl)) (pa_cons (pe_ix Zab (pv 1) pe_int (fun _ _ => rfl)) (pa_cons (pe_ix Zab (pv 1) pe_int (fun _ _ => rfl)) (pa_cons (pe_ix Zab (pv 1) pe_int (fun _ _ => rfl)) (pa_cons (pe_ix Zab (pv 1) pe_int (fun _ _ => rfl)) pa_nil))))))))))))))))))))))))))))))))))))))))))))))))))))))))))))))))))))))))))))))))))))))))))))))))))))))))))))))))))))))))))))))))))))))))))))))))))))))))))))))))))))))))))))))))))))))))))))))))))))))))) (pk_cons pe_int pk_nil)))) (fun a oe cls d pn hz hf => pss_one (ps_ret (pe_xf (T.xc 4 rfl).f (T.no 43 rfl) hz hf (pv 2))))) (pss_one (ps_ret pe_non))
instance : KFn PP w K mg base cs_ Zfk 12 (some "_law_over") (fAd K ("_law_over", none)) (fdOf K ("_law_over", none)) ["_law_alphabet", "_law_t"] := ⟨Zui T.t, Zwg T.t, (T.t.F 27 rfl).kp, fun | _, rfl => (T.t.g 18 rfl)⟩
end
section
variable {w : World} {K : PySem.W.Frag} {mg : Str → Option Value} {base : Heap}
theorem Z4s (T : Facts w K mg) : FnOk PP w K mg base CX0 13 (fAd K ("law", none)) (fdOf K ("law", none)) ["_law_script"] (spD K cs_ Zvp) := haveI : FT w K mg := ⟨T⟩; fnK (N := Z9l) (T.F 28 rfl) (by walk_at "sc") Zuz Z1k (r := fun _ => Zud) (by delta Zud; walk_at "kk")
end
end Cl.Kl
namespace Cl.Kl
open PySem PySem.Spec PyProof.Rows L2 He
theorem Z41 {w : World} {K : PySem.W.Frag} {h : Heap} {mg : Str → Option Value} {f : Addr} (X : K.In h) (G : h.Ns mainGlobals mg) (hfa : mg ("law" : Str) = some (.ref f)) (c : Zqe fa fnd fns fm ts ex w K) :
  ∃ fd : FuncData, (∀ (s : Shared) (v : Value), BindsTo s fd ⟨[v], []⟩ [("_law_script", v)]) ∧ ∀ base : Heap, K.In base → base.Ns mainGlobals mg → FnOk PP w K mg base CX0 13 f fd ["_law_script"] (Zyx K) := by
 have T := Zx9 X G c
 have e := hfa.symm.trans (T.g 21 rfl)
 cases e
 have b := FunD.bindsA (ps := ["_law_script"]) (T.F 28 rfl) fun _ _ _ _ _ _ us hl => match us, hl with | [_], _ => rfl
 exact ⟨_, fun s v => b s [v] rfl, fun base _ _ => Z4s T⟩
end Cl.Kl
theorem PySem.Challenge.cw_cliplore_k94_lots_at_the_very_bound_holds : PySem.Challenge.rw_cliplore_k94_lots_at_the_very_bound.Holds := by
 refine Cl.Kl.early fun w K h mg f KX G hmg c => ?_
 obtain ⟨fd, hb, hF⟩ := Cl.Kl.Z41 (w := w) KX G hmg c
 exact ⟨fd, Cl.Kl.Zyx K, hb, fun H a ns hl _ hS => Cl.Kl.Zth hl hS fun _ => rfl, hF⟩
