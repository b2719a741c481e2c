import PyProof.Rows.All
import Wide.All
import OpenK.AllK
import Wide.FinOn
import KE.KExcIs
import HandS.ForMost
import HandS.ForExc
import HandS.ExcInit
import HandS.ExcField
import HandS.ExcIs
import HandS.ExcValue
import HandS.IsInst
import HandS.ClsMeth
import HandS.Defaults
import HandS.Steps
import HandS.Style
import HandS.Wide
import PyProof.ListStr
import HandS.Head0
import HandS.Head1
import HandS.Head2
import HandS.HeadEnd
import HandS.HeadHook4
import PyProof.CollectStr
import PyProof.StrWalks
import PyProof.Rows.SetFrom
import PyProof.Rows.SortStr
import HandS.SetKeys
import HandS.More
import HandS.Set
import HandS.SetTxt0
import HandS.Strs
import PyProof.Rows.StrRev
import HandS.ReplaceList
import HandS.Walk
import HandS.Codes
import HandS.OwnEq
import HandS.Dict
import KE.KSuper
import HandS.Star
import HandS.FStr
import HandS.MakeKwOnly
import HandS.HeadNt
import HandS.Conv
import HandS.Deep
import HandS.HeadHook3
import HandS.Zip
import HandS.SetBool
import KE.KCallOwn
import HandS.RaiseMore
import PyProof.StrLawsRepr
import KE.KDictKeyed
import KE.KDictDisplayH
import HandS.TupLen
import PyProof.Rows.Range3
import KE.KxField
import HandS.StrMore
import PyProof.FString3
import HandS.TryOnly
import HandS.Replace
import PyProof.StrLawsIn
import PyProof.RulesMatch
import HandS.TupSets
import HandS.Records
import KE.DataCmp
import KE.SortData
import KE.DataMinMax
import KE.KDictWalk
import HandS.MakeKw
import PySem.Challenge.RW_cliplore_k53_lots_made
set_option Elab.async false
set_option linter.all false
set_option maxRecDepth 100000
set_option maxHeartbeats 4000000
def Qa := @List.getElem?_eq_some_iff
def Qb := @List.length_map
def Qc := @List.length_append
def Qe := @List.length_cons
def Qf := @List.getElem?_eq_getElem
def Qg := @List.mem_cons
def Qh := @List.length_nil
def Qi := @List.getElem?_concat_length
def Qj := @List.mem_singleton
def Qk := @List.mem_cons_of_mem
def Ql := @List.getD_eq_getElem?_getD
def Qm := @List.not_mem_nil
def Qn := @List.getElem?_map
def Qo := @List.mem_cons_self
def Qp := @List.mem_of_getElem?
def Qq := @List.map_map
def Qr := @Nat.zero_le
def Qs := @List.getElem?_set_self
def Qt := @List.length_reverse
def Qu := @Nat.le_refl
def Qv := @List.map_append
def Qw := @List.drop_eq_getElem_cons
def Qx := @List.append_nil
def Qy := @List.getElem?_append_left
def Qz := @List.mem_map
def Q0 := @Option.some.inj
def Q1 := @List.mem_append
def Q2 := @List.set_set
def Q3 := @List.map_cons
def Q4 := @List.getElem?_set_ne
def Q5 := @List.length_take
def Q6 := @List.append_assoc
def Q7 := @Bool.eq_iff_iff
def Q8 := @List.all_eq_true
def Q9 := @List.take_length
def Ha := @Int.toNat_natCast
def Hb := @Nat.le_trans
def Hc := @List.length_range
def Hd := @List.getElem?_take_of_lt
def Hf := @List.nodup_cons
def Hg := @List.set_cons_succ
def Hh := @List.getElem?_cons_succ
def Hi := @List.getElem?_cons_zero
def Hj := @List.lookup_cons
def Hk := @List.prefix_refl
def Hl := @List.drop_length
def Hm := @List.getElem?_eq_none
def Hn := @List.length_singleton
def Ho := @List.getElem_mem
def Hq := @Bool.and_eq_true
def Hr := @List.set_cons_zero
def Hs := @List.flatten_cons
def Ht := @List.take_add_one
def Hu := @List.getElem?_append_right
def Hv := @List.take_left'
def Hw := @List.nil_append
def Hx := @List.getElem?_of_mem
def Hy := @List.cons.inj
def Hz := @List.sum_cons
def H5 := @List.nodup_nil
def H6 := @List.mem_range
def H7 := @List.mem_flatMap
def H8 := @List.drop_eq_nil_of_le
def H9 := @List.nodup_append
def Ga := @Bool.and_eq_true_iff
def Gb := @List.map_nil
def Ge := @Array.length_toList
def Gf := @List.length_pos_iff
def Gg := @List.length_eq_zero_iff
def Gh := @List.pairwise_cons
def Gi := @Option.toList_some
def Gj := @List.nil_prefix
def Gk := @List.drop_of_length_le
def Gm := @List.pairwise_map
def Gn := @List.mem_of_mem_take
def Gp := @List.drop_eq_nil_iff
def Gq := @List.all_cons
def Gr := @List.replicate_succ
def Gs := @List.foldl_cons
def Gu := @List.find?_cons
def Gv := @Nat.min_eq_left
def Gx := @List.prefix_rfl
def Gy := @Nat.ne_of_lt
def Gz := @List.zip_cons_cons
def G0 := @Nat.add_sub_cancel
def G3 := @Bool.false_eq_true
def G4 := @Nat.lt_or_ge
def G5 := @Bool.false_bne
def G6 := @List.reverse_cons
def G7 := @List.flatMap_cons
def G8 := @List.find?_cons_of_neg
def G9 := @Bool.true_bne
def La := @Bool.true_and
def Lb := @List.any_eq_true
def Lc := @List.map_flatMap
def Le := @List.mem_append_right
def Lf := @Array.toArray_toList
def Lg := @List.mem_iff_getElem
def Lh := @List.perm_cons_erase
def Li := @List.mem_erase_of_ne
def Lj := @List.idxOf_cons_self
def Lk := @List.sum_append
def Ll := @List.sum_nil
def Lm := @List.mem_append_left
def Ln := @Nat.mul_le_mul_right
def Lo := @List.length_set
def Lp := @List.Perm.refl
def Lq := @Nat.lt_of_lt_of_le
def Lr := @Bool.false_ne_true
def Ls := @List.map_take
def Lu := @List.any_cons
def Lv := @Bool.and_true
def Lw := @List.take_sublist
def Lx := @List.foldl_append
def Ly := @List.pairwise_iff_getElem
def Lz := @List.Perm.eq_of_pairwise
def L0 := @List.idxOf_lt_length_iff
def L1 := @List.cons_ne_nil
def L3 := @Nat.min_eq_right
def L4 := @Nat.le_add_right
def L5 := @Nat.zero_add
def L6 := @List.flatMap_nil
def L7 := @List.getElem?_replicate
def L8 := @Nat.add_sub_cancel_left
def L9 := @List.cons.injEq
def Ta := @Nat.le_succ
def Tb := @List.filter_eq_nil_iff
def Tc := @List.length_eq_one_iff
def Td := @List.take_of_length_le
def Te := @List.map_id
def Tf := @List.sum_replicate_nat
def Tg := @Array.getElem?_toList
def Th := @List.length_filter_le
def Ti := @List.set_append_right
def Tj := @List.set_comm
def Tn := @Nat.le_of_lt
def To := @List.any_map
namespace Cl
open PySem PySem.Spec PyProof.Rows L2
structure XCls (K : PySem.W.Frag) (C : Addr) : Prop where
 o : OexC K C
 f : XfC K C
 cl : (PySem.W.clsIn K C).isSome = true
 kl : PySem.W.findIn K (.ref C) "__class__" = some (some (.builtin "object.__class__"))
 sg : PySem.W.specialIn K (.builtin "object.__class__") "__get__" = some (some (.builtin "getset_descriptor.__get__"))
 tk : PySem.W.takesIn K (.builtin "object.__class__") = some true
 mo : PySem.W.mroIn K C (.type "object") = some true
section
variable {X : Cx} {e : Expr} {es : List Expr} {te : TE} {ta : TA} {f x : Str} {p p1 p2 pos : Pos}
theorem Zlf {B : Addr} {pl : Sem Bool} (hg : Gl X x) (hm : X.mg x = some (.ref B)) (hs : PySem.W.specialIn X.K (.ref B) "__getattribute__" = some (some (.builtin "type.__getattribute__"))) (ht : PySem.W.typeIn X.K (.ref B) = some (.type "type")) (hr : PySem.W.readsIn X.K B (.type "type") = true)
  (hv : PySem.W.findCls X.K (.ref B) (.type "type") "__init__" = some (.val (.builtin "ValueError.__init__"))) (ha : PA X (e :: es) ta)
  (hc : eval (.Call (.Attribute (.Name x p1) "__init__" p2) (e :: es) [] pos) X.env = (do
   let ov ← eval (.Name x p1) X.env
   standAt p2.atName
   let (f, first) ← holding [ov] (getMethod ov "__init__" pl)
   callWith pos f first (backTo pos (starEach (e :: es) X.env)) (backToKw pos (keywordEach [] X.env))) := by rfl)
  (hd : (x == ("__debug__" : Str)) = false := by decide)
  (he : starEach (e :: es) X.env = (false, eval e X.env) :: starEach es X.env := by rfl) (hq : (backTo pos (starEach es X.env)).any (·.1) = false := by rfl) :
  PE X (.Call (.Attribute (.Name x p1) "__init__" p2) (e :: es) [] pos) (tVeI X.K ta) := by
 constructor
 intro pins s σ H Q I h
 refine PySem.W.methodCall_KW (ld_glob I hg hm ?_ hd) hc
 obtain ⟨m, fr⟩ := I.fr
 refine PySem.W.method_of_cls fr I.ok.mod.kin hs (PySem.W.cls_val fr I.ok.mod.kin ht hr hv (by decide +kernel) ?_)
 refine PyProof.Rows.callWith_method1 (thn (ha.run pos pins _ σ H _ (I.tok _) h) ?_) he hq
 rintro us s1 ⟨vs, H1, I1, r1, a, C, ws, ev, hl, T, ea, q⟩
 subst ev
 cases r1 with
 | @cons _ u0 _ ur ra rr =>
  obtain rfl : u0 = Value.ref a := ra
  refine oinit_ok T I1 ea ?_ (fun s' J => ⟨.non, H1, J, rfl, q⟩)
  rw [← Paired.length rr, sizeLine_eq]
  omega
def XAt (H : Hp) (a C : Addr) : Prop := H a = some (ExO (.ref C) a) ∨ ∃ d fs, H a = some (exo a C (some d)) ∧ H d = some (exd d fs)
def rIsX (K : PySem.W.Frag) : List V → Hp → VK → Prop := fun xs H Q => ∃ (a C : Addr) (c : V) (u : Value) (b : Bool), xs = [.ref a, c] ∧ ClsV c u ∧ XCls K C ∧ XAt H a C ∧ PySem.W.kitOne K (.ref C) u = some b ∧ Q (.bl b) H
theorem Z5s : CallR X (.builtin "isinstance") (rIsX X.K) := by
 intro pins s σ H xs us Q I r h
 obtain ⟨a, C, c, u, b, rfl, k, T, hX, hk, q⟩ := h
 obtain ⟨u1, u2, rfl, r1, r2⟩ := vals2 r
 obtain rfl := k.eq r2
 obtain rfl : u1 = Value.ref a := r1
 have J : ∃ ox od, PySem.W.InstAt s.heap a ox C od := by
  rcases hX with h | ⟨d, fs, h1, h2⟩
  ·obtain ⟨⟨oe, vs, ho, hz, hd, _⟩, _⟩ := I.hok a _ h
   refine ⟨oe, none, ho, hz.1, ?_, ?_⟩
   ·unfold PySem.W.notCls
    rw [hd]
   ·rw [hz.2]
    trivial
  ·obtain ⟨t1, ho⟩ := exo_at I.hok h1
   obtain ⟨mA, hns, _⟩ := exd_at I.hok h2
   obtain ⟨od, hod, _⟩ := lookIn_ns hns
   exact ⟨_, some od, ho, rfl, rfl, hod⟩
 obtain ⟨ox, od, J⟩ := J
 exact PySem.W.kia_one (PySem.W.kitx_exc T.cl T.f.ga T.f.gg T.f.exC T.kl T.sg T.tk T.mo) I.kIn J hk (fun z => nomatch z) fun tk => ⟨.bl b, H, I.tok tk, rfl, q⟩
def tXfv (K : PySem.W.Frag) (f : Str) (te : TE) : TE := fun σ H Q => te σ H fun x H1 => ∃ (a C d : Addr) (fs : List (Str × V)) (v : V), x = .ref a ∧ XfC K C ∧ PySem.W.findIn K (.ref C) f = some none ∧ H1 a = some (exo a C (some d)) ∧ H1 d = some (exd d fs) ∧ fs.lookup f = some v ∧ Q v H1
end
abbrev S (l : List Nat) : Str := ⟨⟨l⟩⟩
abbrev sv (l : List Nat) : V := .str ⟨⟨l⟩⟩
theorem Yau (a b : List Nat) : S a ++ S b = S (a ++ b) := by
 show (⟨(⟨a⟩ : Array Nat) ++ ⟨b⟩⟩ : Str) = _
 simp
theorem S_len (a : List Nat) : (S a).length = a.length := rfl
def rep (a : List Nat) (k : Nat) : List Nat := (List.replicate k a).flatten
def cut {α : Type} (z : List α) (lo hi : Option Int) : List α := (z.drop (HT.sIx z.length 0 lo)).take (HT.sIx z.length z.length hi - HT.sIx z.length 0 lo)
section
variable {X : Cx} {p pos : Pos}
theorem Zg0 {x : Str} {l : List Nat} {j : Nat} (h : x = S l) : PE X (.Constant (.str x) j pos) (tC (sv l)) := by
 subst h
 exact pe_str
def zAdd : R2 := fun x y H Q => match x, y with
 | .int i, .int j => Q (.int (i + j)) H
 | .str ⟨⟨a⟩⟩, .str ⟨⟨b⟩⟩ => a.length + b.length ≤ sizeLine ∧ Q (sv (a ++ b)) H
 | .ref l, .ref b => ∃ xs zs, H l = some (.lst xs) ∧ H b = some (.lst zs) ∧ xs.length + zs.length ≤ sizeLine ∧ ∀ p, H p = none → Q (.ref p) (upd H p (.lst (xs ++ zs)))
 | _, _ => False
theorem Zte : OpR X (binaryOp .Add) zAdd := by
 intro pins s σ H x y v u Q I rx ry h
 cases x with
 | int i =>
  cases y with
  | int j => exact op_add pins s σ H _ _ v u Q I rx ry ⟨i, j, rfl, rfl, h⟩
  | _ => exact (show False from h).elim
 | str a =>
  cases y with
  | str b =>
   obtain ⟨⟨a⟩⟩ := a
   obtain ⟨⟨b⟩⟩ := b
   obtain ⟨hz, q⟩ : a.length + b.length ≤ sizeLine ∧ Q (sv (a ++ b)) H := h
   exact op_add_str pins s σ H _ _ v u Q I rx ry ⟨_, _, rfl, rfl, hz, by rw [Yau]; exact q⟩
  | _ => exact (show False from h).elim
 | ref l =>
  cases y with
  | ref b =>
   obtain ⟨xs, zs, h1, h2, h3, q⟩ := h
   exact op_cat pins s σ H _ _ v u Q I rx ry ⟨l, b, xs, zs, rfl, rfl, h1, h2, h3, q⟩
  | _ => exact (show False from h).elim
 | _ => exact (show False from h).elim
def zSub : R2 := fun x y H Q => match x, y with
 | .int i, .int j => Q (.int (i - j)) H
 | _, _ => False
theorem Yb5 : OpR X (binaryOp .Sub) zSub := by
 intro pins s σ H x y v u Q I rx ry h
 cases x with
 | int i =>
  cases y with
  | int j => exact op_sub pins s σ H _ _ v u Q I rx ry ⟨i, j, rfl, rfl, h⟩
  | _ => exact (show False from h).elim
 | _ => exact (show False from h).elim
theorem Z9a (a : List Nat) (k : Int) : Txt.mul (S a) k = S (rep a k.toNat) := by
 unfold Txt.mul
 by_cases h1 : k < 1
 ·rw [if_pos h1]
  have : k.toNat = 0 := by omega
  rw [this]
  rfl
 ·rw [if_neg h1]
  split
  ·rename_i h
   rw [Bool.or_eq_true] at h
   rcases h with h | h
   ·have : k = 1 := by simpa using h
    subst this
    show S a = S (List.replicate 1 a).flatten
    simp
   ·have : a = [] := by
     have : a.length = 0 := by simpa [S_len] using h
     exact Gg.mp this
    subst this
    show S [] = S (List.replicate k.toNat []).flatten
    simp
  ·show (⟨(List.replicate k.toNat (⟨a⟩ : Array Nat)).foldl (· ++ ·) #[]⟩ : Str) = S (rep a k.toNat)
   have : ∀ (n : Nat) (b : List Nat), (List.replicate n (⟨a⟩ : Array Nat)).foldl (· ++ ·) (⟨b⟩ : Array Nat) = ⟨b ++ (List.replicate n a).flatten⟩ := by
    intro n
    induction n with
    | zero => intro b; simp
    | succ n ih =>
     intro b
     rw [Gr, Gs]
     have e : (⟨b⟩ : Array Nat) ++ ⟨a⟩ = ⟨b ++ a⟩ := by simp
     rw [e, ih, Gr, Hs, Q6]
   have e := this k.toNat []
   rw [show (#[] : Array Nat) = ⟨[]⟩ from rfl, e]
   rfl
def zMul : R2 := fun x y H Q => match x, y with
 | .int i, .int j => CMul i j ∧ Q (.int (i * j)) H
 | .str ⟨⟨a⟩⟩, .int k => 0 ≤ k ∧ k ≤ 100000 ∧ a.length ≤ 100 ∧ Q (sv (rep a k.toNat)) H
 | .ref l, .int k => ∃ xs, H l = some (.lst xs) ∧ -(2 ^ 63) ≤ k ∧ k < 2 ^ 63 ∧ xs.length * k.toNat ≤ sizeLine ∧ ∀ p, H p = none → Q (.ref p) (upd H p (.lst (List.replicate k.toNat xs).flatten))
 | _, _ => False
theorem Yb8 : OpR X (binaryOp .Mult) zMul := by
 intro pins s σ H x y v u Q I rx ry h
 cases x with
 | int i =>
  cases y with
  | int j =>
   obtain ⟨hc, q⟩ := h
   exact op_mul pins s σ H _ _ v u Q I rx ry ⟨i, j, rfl, rfl, hc, q⟩
  | _ => exact (show False from h).elim
 | str a =>
  cases y with
  | int k =>
   obtain ⟨⟨a⟩⟩ := a
   obtain ⟨h0, h1, h2, q⟩ : 0 ≤ k ∧ k ≤ 100000 ∧ a.length ≤ 100 ∧ Q (sv (rep a k.toNat)) H := h
   obtain ⟨t, rfl⟩ := rx
   obtain ⟨t', rfl⟩ := ry
   have ok : MulOk (S a) k := by
    refine ⟨?_, fun h _ => ?_, fun h _ => ?_⟩
    ·simp only [Bool.or_eq_false_iff, decide_eq_false_iff_not]
     omega
    ·rw [S_len]
     have : (2 ^ 63 - 1 : Int) / 100000 ≤ (2 ^ 63 - 1) / k := by
      rw [Int.le_ediv_iff_mul_le (by omega)]
      have : (2 ^ 63 - 1 : Int) / 100000 * k ≤ (2 ^ 63 - 1 : Int) / 100000 * 100000 := Int.mul_le_mul_of_nonneg_left h1 (by decide)
      omega
     omega
    ·rw [S_len]
     have e : a.length * k.toNat ≤ 100 * 100000 := Nat.mul_le_mul h2 (by omega)
     unfold PySem.Builtin.Str.tooLong
     have := sizeLine_eq
     simp only [decide_eq_false_iff_not]
     omega
   refine SB.mul ok fun t' tk => ?_
   rw [Z9a]
   exact ⟨sv (rep a k.toNat), H, I.tok _, ⟨_, rfl⟩, q⟩
  | _ => exact (show False from h).elim
 | ref l =>
  cases y with
  | int k =>
   obtain ⟨xs, h1, h2, h3, h4, q⟩ := h
   exact op_rep pins s σ H _ _ v u Q I rx ry ⟨l, k, xs, rfl, rfl, h1, h2, h3, h4, q⟩
  | _ => exact (show False from h).elim
 | _ => exact (show False from h).elim
def zDiv : R2 := fun x y H Q => match x, y with
 | .int i, .int j => CDivW i j ∧ Q (.int (i / j)) H
 | _, _ => False
theorem Ycb : OpR X (binaryOp .FloorDiv) zDiv := by
 intro pins s σ H x y v u Q I rx ry h
 cases x with
 | int i =>
  cases y with
  | int j => exact op_fdivW pins s σ H _ _ v u Q I rx ry ⟨i, j, rfl, rfl, h.1, h.2⟩
  | _ => exact (show False from h).elim
 | _ => exact (show False from h).elim
def zMod : R2 := fun x y H Q => match x, y with
 | .int i, .int j => 0 < j ∧ Q (.int (i % j)) H
 | _, _ => False
theorem Yb9 : OpR X (binaryOp .Mod) zMod := by
 intro pins s σ H x y v u Q I rx ry h
 cases x with
 | int i =>
  cases y with
  | int j => exact op_mod pins s σ H _ _ v u Q I rx ry ⟨i, j, rfl, rfl, h.1, h.2⟩
  | _ => exact (show False from h).elim
 | _ => exact (show False from h).elim
def zPow : R2 := fun x y H Q => match x, y with
 | .int i, .int j => CPow i j ∧ Q (.int (i ^ j.toNat)) H
 | _, _ => False
theorem Yb6 : OpR X (binaryOp .Pow) zPow := by
 intro pins s σ H x y v u Q I rx ry h
 cases x with
 | int i =>
  cases y with
  | int j => exact op_pow pins s σ H _ _ v u Q I rx ry ⟨i, j, rfl, rfl, h.1, h.2⟩
  | _ => exact (show False from h).elim
 | _ => exact (show False from h).elim
def zLt : R2 := fun x y H Q => match x, y with
 | .int i, .int j => Q (.bl (decide (i < j))) H
 | _, _ => False
def zLe : R2 := fun x y H Q => match x, y with
 | .int i, .int j => Q (.bl (decide (i ≤ j))) H
 | _, _ => False
def zGt : R2 := fun x y H Q => match x, y with
 | .int i, .int j => Q (.bl (decide (j < i))) H
 | _, _ => False
def zGe : R2 := fun x y H Q => match x, y with
 | .int i, .int j => Q (.bl (decide (j ≤ i))) H
 | _, _ => False
theorem Yfr : OpR X (compareOp .Lt) zLt := by
 intro pins s σ H x y v u Q I rx ry h
 cases x with
 | int i =>
  cases y with
  | int j => exact op_lt pins s σ H _ _ v u Q I rx ry ⟨i, j, rfl, rfl, h⟩
  | _ => exact (show False from h).elim
 | _ => exact (show False from h).elim
theorem Z82 : OpR X (compareOp .LtE) zLe := by
 intro pins s σ H x y v u Q I rx ry h
 cases x with
 | int i =>
  cases y with
  | int j => exact op_le pins s σ H _ _ v u Q I rx ry ⟨i, j, rfl, rfl, h⟩
  | _ => exact (show False from h).elim
 | _ => exact (show False from h).elim
theorem Yca : OpR X (compareOp .Gt) zGt := by
 intro pins s σ H x y v u Q I rx ry h
 cases x with
 | int i =>
  cases y with
  | int j => exact op_gt pins s σ H _ _ v u Q I rx ry ⟨i, j, rfl, rfl, h⟩
  | _ => exact (show False from h).elim
 | _ => exact (show False from h).elim
theorem Yfu : OpR X (compareOp .GtE) zGe := by
 intro pins s σ H x y v u Q I rx ry h
 cases x with
 | int i =>
  cases y with
  | int j => exact op_ge pins s σ H _ _ v u Q I rx ry ⟨i, j, rfl, rfl, h⟩
  | _ => exact (show False from h).elim
 | _ => exact (show False from h).elim
def eqB : V → V → Option Bool
 | .non, .non => some true
 | .non, .int _ | .int _, .non | .non, .bl _ | .bl _, .non | .non, .str _ | .str _, .non | .int _, .str _ | .str _, .int _ | .bl _, .str _ | .str _, .bl _ => some false
 | .int i, .int j => some (decide (i = j))
 | .bl i, .bl j => some (decide (i = j))
 | .str ⟨⟨a⟩⟩, .str ⟨⟨b⟩⟩ => some (decide (a = b))
 | _, _ => none
theorem Zxz {x y : V} {b : Bool} (h : eqB x y = some b) : scal x y = true ∧ decide (x = y) = b := by
 cases x <;> cases y <;> first
  | (refine ⟨rfl, ?_⟩; have := Q0 h; subst this; simp; done)
  | (refine ⟨rfl, ?_⟩; have := Q0 h; subst this; rw [Q7]; simp; done)
  | (rename_i a b; obtain ⟨⟨a⟩⟩ := a; obtain ⟨⟨b⟩⟩ := b; refine ⟨rfl, ?_⟩; have := Q0 h; subst this; rw [Q7]; simp; done)
  | (cases h; done)
def zEq (K : PySem.W.Frag) : R2 := fun x y H Q => match eqB x y with
 | some b => Q (.bl b) H
 | none => ∃ d e, Dp K H x d ∧ Dp K H y e ∧ SeqAt.shaped d = true ∧ SeqAt.shaped e = true ∧ Q (.bl (PyData.eqv d e)) H
def zNe (K : PySem.W.Frag) : R2 := fun x y H Q => match eqB x y with
 | some b => Q (.bl (!b)) H
 | none => ∃ d e, Dp K H x d ∧ Dp K H y e ∧ SeqAt.shaped d = true ∧ SeqAt.shaped e = true ∧ Q (.bl (!PyData.eqv d e)) H
theorem Z83 (hu : X.A.units + 64 < cLine) : OpR X (compareOp .Eq) (zEq X.K) := by
 intro pins s σ H x y v u Q I rx ry h
 unfold zEq at h
 split at h
 ·rename_i b e
  obtain ⟨h1, h2⟩ := Zxz e
  exact op_eq pins s σ H _ _ v u Q I rx ry ⟨h1, by rw [h2]; exact h⟩
 ·exact op_eqD hu pins s σ H _ _ v u Q I rx ry h
theorem Z81 (hu : X.A.units + 64 < cLine) : OpR X (compareOp .NotEq) (zNe X.K) := by
 intro pins s σ H x y v u Q I rx ry h
 unfold zNe at h
 split at h
 ·rename_i b e
  obtain ⟨h1, h2⟩ := Zxz e
  exact op_ne pins s σ H _ _ v u Q I rx ry ⟨h1, by rw [h2]; exact h⟩
 ·exact op_neD hu pins s σ H _ _ v u Q I rx ry h
theorem hu64 {A : Around} {k : Nat} (hr : Room k A) : A.units + 64 < cLine := hr.units
def zIs : R2 := fun x y H Q => match x, y with
 | .bl a, .bl b => Q (.bl (decide (a = b))) H
 | x, .non => Q (.bl (decide (x = .non))) H
 | _, _ => False
def Zop : R2 := fun x y H Q => match x, y with
 | .bl a, .bl b => Q (.bl (!decide (a = b))) H
 | x, .non => Q (.bl (!decide (x = .non))) H
 | _, _ => False
theorem Yfs : OpR X (compareOp .Is) zIs := by
 intro pins s σ H x y v u Q I rx ry h
 cases y with
 | non =>
  cases x <;> exact op_isN pins s σ H _ _ v u Q I rx ry ⟨rfl, h⟩
 | bl b =>
  cases x with
  | bl a => exact op_isBl pins s σ H _ _ v u Q I rx ry ⟨a, b, rfl, rfl, h⟩
  | _ => exact (show False from h).elim
 | _ => cases x <;> exact (show False from h).elim
theorem Z4j : OpR X (compareOp .IsNot) Zop := by
 intro pins s σ H x y v u Q I rx ry h
 cases y with
 | non =>
  cases x <;> exact op_notN pins s σ H _ _ v u Q I rx ry ⟨rfl, h⟩
 | bl b =>
  cases x with
  | bl a => exact op_notBl pins s σ H _ _ v u Q I rx ry ⟨a, b, rfl, rfl, h⟩
  | _ => exact (show False from h).elim
 | _ => cases x <;> exact (show False from h).elim
def zIx (K : PySem.W.Frag) : R2 := fun x y H Q => match x, y with
 | .ref p, .int i => ∃ xs v, (SqL K H p xs ∨ SqT K H p xs) ∧ atI xs i = some v ∧ Q v H
 | .str ⟨⟨z⟩⟩, .int i => ∃ c, z.length ≤ sizeLine ∧ atI z i = some c ∧ Q (sv [c]) H
 | _, _ => False
theorem Ygn : IxR X (zIx X.K) := by
 intro value slice pins s σ H x y v u Q I rx ry h hs
 cases x with
 | ref p =>
  cases y with
  | int i =>
   obtain ⟨xs, z, h1, h2, q⟩ := h
   rcases h1 with h1 | h1
   ·exact ix_list value slice pins s σ H _ _ v u Q I rx ry ⟨p, xs, i, z, rfl, rfl, h1, h2, q⟩ hs
   ·exact ix_tup value slice pins s σ H _ _ v u Q I rx ry ⟨p, xs, i, z, rfl, rfl, h1, h2, q⟩ hs
  | _ => exact (show False from h).elim
 | str z =>
  cases y with
  | int i =>
   obtain ⟨⟨z⟩⟩ := z
   obtain ⟨c, h1, h2, q⟩ : ∃ c, z.length ≤ sizeLine ∧ atI z i = some c ∧ Q (sv [c]) H := h
   exact ix_str value slice pins s σ H _ _ v u Q I rx ry ⟨S z, i, c, rfl, rfl, h1, h2, q⟩ hs
  | _ => exact (show False from h).elim
 | _ => exact (show False from h).elim
def zSl (K : PySem.W.Frag) : V → Option Int → Option Int → Hp → VK → Prop := fun x lo hi H Q => match x with
 | .str ⟨⟨z⟩⟩ => z.length ≤ sizeLine ∧ Q (sv (cut z lo hi)) H
 | .ref a => ∃ xs, SqL K H a xs ∧ ∀ p, H p = none → Q (.ref p) (upd H p (.lst (cut xs lo hi)))
 | _ => False
theorem Yev : SlR X (zSl X.K) := by
 intro pins s σ H x v vl vu lo hi sl Q I rx hs pl pu h
 cases x with
 | str z =>
  obtain ⟨⟨z⟩⟩ := z
  obtain ⟨hz, q⟩ : z.length ≤ sizeLine ∧ Q (sv (cut z lo hi)) H := h
  exact sl_str pins s σ H _ v vl vu lo hi sl Q I rx hs pl pu ⟨S z, rfl, hz, q⟩
 | ref a =>
  obtain ⟨xs, h1, q⟩ := h
  exact sl_list pins s σ H _ v vl vu lo hi sl Q I rx hs pl pu ⟨a, xs, rfl, h1, q⟩
 | _ => exact (show False from h).elim
def zLen (K : PySem.W.Frag) : List V → Hp → VK → Prop := fun xs H Q => ∃ x n, xs = [x] ∧ LenV K x H n ∧ Q (.int n) H
theorem Yea : CallR X (.builtin "len") (zLen X.K) := call_len
def zInt : List V → Hp → VK → Prop := fun xs H Q => match xs with
 | [.int i] => Q (.int i) H
 | _ => False
def zIsi (K : PySem.W.Frag) : List V → Hp → VK → Prop := fun xs H Q => rIsX K xs H Q ∨ rIsi K xs H Q
theorem Yeb : CallR X (.builtin "isinstance") (zIsi X.K) := CallR.or Z5s call_isi
end
end Cl
namespace Cl
open PySem PySem.Spec PyProof.Rows L2 He
def fdOf (K : PySem.W.Frag) (p : Str × Option Str) : FuncData := match K.lookup (fAd K p) with
 | some ⟨_, _, .func fd, _⟩ => fd
 | _ => default
theorem Ygs {K : PySem.W.Frag} {x q : Str} {a : Arguments} {b : List Stmt} {sc : Scope} {dvs : List V} {kws : List (Str × V)} {p : Str × Option Str} (h : ∃ fd, FunD K x q a b sc dvs kws (fAd K p) fd) : FunD K x q a b sc dvs kws (fAd K p) (fdOf K p) := by
 obtain ⟨fd, F⟩ := h
 have e : fdOf K p = fd := by
  obtain ⟨oc, od, dV, kV, doc, pm, an, cdv, ct, osl, rfl, lk, _⟩ := F.ex
  unfold fdOf
  rw [lk]
 rw [e]
 exact F
def oexB (K : PySem.W.Frag) (C : Addr) : Bool := match K.lookup C with
 | some ⟨.type "type", _, .cls cd, sl⟩ => (match cd.mro, sl.toList with
  | .ref D :: bm, [_, _, _, _, some (.builtin n), _] => decide (D = C) && (decide (n = "ValueError.__new__") && (!cd.hasDel && (cd.hasDict && PySem.HandSPX.refsVE bm)))
  | _, _ => false)
 | _ => false
theorem Z86 {K : PySem.W.Frag} {C : Addr} (h : oexB K C = true) : ∃ nm q N bs bm sn sub ab col dd k0 k1 k2 k3 k5, K.lookup C = some (excClassObj nm q C N bs bm true sn sub ab col dd k0 k1 k2 k3 k5 "ValueError.__new__") ∧ PySem.HandSPX.refsVE bm = true := by
 unfold oexB at h
 split at h
 ·rename_i dd cd sl ho
  split at h
  ·rename_i D bm k0 k1 k2 k3 n k5 hm hs
   obtain ⟨h1, h⟩ := ba h
   obtain ⟨h2, h⟩ := ba h
   obtain ⟨h3, h⟩ := ba h
   obtain ⟨h4, h5⟩ := ba h
   obtain rfl := of_decide_eq_true h1
   obtain rfl := of_decide_eq_true h2
   obtain ⟨nm, bs, mro, ns, qn, hd, sn, sub, ab, col, del⟩ := cd
   obtain ⟨l⟩ := sl
   dsimp only at hm hs h3 h4
   subst hm hs h4
   have hdel : del = false := by simpa using h3
   subst hdel
   exact ⟨nm, qn, ns, bs, bm, sn, sub, ab, col, dd, k0, k1, k2, k3, k5, ho, h5⟩
  ·cases h
 ·cases h
def Yax (K : PySem.W.Frag) (C : Addr) : Bool := oexB K C && (decide (PySem.W.findIn K (.ref C) "__setattr__" = some (some (.builtin "object.__setattr__"))) && (decide (PySem.W.typeIn K (.ref C) = some (.type "type")) && (PySem.W.keepIn K (.ref C) &&
 (xfB K C && ((PySem.W.clsIn K C).isSome && (decide (PySem.W.findIn K (.ref C) "__class__" = some (some (.builtin "object.__class__"))) && (decide (PySem.W.specialIn K (.builtin "object.__class__") "__get__" = some (some (.builtin "getset_descriptor.__get__"))) &&
 (decide (PySem.W.takesIn K (.builtin "object.__class__") = some true) && decide (PySem.W.mroIn K C (.type "object") = some true)))))))))
theorem Z3u {K : PySem.W.Frag} {C : Addr} (h : Yax K C = true) : XCls K C := by
 obtain ⟨h1, h⟩ := ba h
 obtain ⟨h2, h⟩ := ba h
 obtain ⟨h3, h⟩ := ba h
 obtain ⟨h4, h⟩ := ba h
 obtain ⟨h5, h⟩ := ba h
 obtain ⟨h6, h⟩ := ba h
 obtain ⟨h7, h⟩ := ba h
 obtain ⟨h8, h⟩ := ba h
 obtain ⟨h9, h10⟩ := ba h
 have f := xfB_ok h5
 exact ⟨⟨Z86 h1, of_decide_eq_true h2, f.exC, of_decide_eq_true h3, h4⟩, f, h6, of_decide_eq_true h7, of_decide_eq_true h8, of_decide_eq_true h9, of_decide_eq_true h10⟩
structure Yeq (K : PySem.W.Frag) (B : Addr) : Prop where
 s : PySem.W.specialIn K (.ref B) "__getattribute__" = some (some (.builtin "type.__getattribute__"))
 t : PySem.W.typeIn K (.ref B) = some (.type "type")
 r : PySem.W.readsIn K B (.type "type") = true
 v : PySem.W.findCls K (.ref B) (.type "type") "__init__" = some (.val (.builtin "ValueError.__init__"))
def Z7q (K : PySem.W.Frag) (B : Addr) : Bool := decide (PySem.W.specialIn K (.ref B) "__getattribute__" = some (some (.builtin "type.__getattribute__"))) && (decide (PySem.W.typeIn K (.ref B) = some (.type "type")) && (PySem.W.readsIn K B (.type "type") &&
 (match PySem.W.findCls K (.ref B) (.type "type") "__init__" with
  | some (.val (.builtin n)) => decide (n = "ValueError.__init__")
  | _ => false)))
theorem Z3a {K : PySem.W.Frag} {B : Addr} (h : Z7q K B = true) : Yeq K B := by
 obtain ⟨h1, h⟩ := ba h
 obtain ⟨h2, h⟩ := ba h
 obtain ⟨h3, h4⟩ := ba h
 refine ⟨of_decide_eq_true h1, of_decide_eq_true h2, h3, ?_⟩
 split at h4
 ·rename_i n e
  rw [e, of_decide_eq_true h4]
 ·cases h4
structure Yg3 (fa : List Fa) (fn : List DefD) (ts : List Tab) (ex : PySem.W.Frag → Bool) (w : World) (K : PySem.W.Frag) : Prop where
 t : SaysT fa fn ts w K
 more : ex K = true
section
variable {t u : TS} {te ta tb : TE} {tt tu : TT} {tr : TA} {D : Ends} {σ σ' : L2.St} {H : Hp} {Q : VK} {QB : Bool → Hp → Prop} {QA : List V → Hp → Prop} {g : TG} {i : Nat} {v : V} {r : R2} {K : PySem.W.Frag} {xs : List V} {p : Addr}
theorem Ye3 (h : t { D with nx := u D } σ H) : tSeq t u D σ H := h
theorem Yfi (h : te σ H fun x H1 => g x σ H1 D.nx) : tAsg te g D σ H := h
theorem Ye4 (h : te σ H D.rt) : tRet te D σ H := h
theorem Ybs (h : te σ H fun _ H1 => D.nx σ H1) : tDrop te D σ H := h
theorem Ybk (h : D.nx σ H) : tNext D σ H := h
theorem s_if (h : tt σ H fun b H1 => if b = true then t D σ H1 else u D σ H1) : tIfS tt t u D σ H := h
theorem Yez (e : σ[i]? = some (some v)) (h : Q v H) : tVar i σ H Q := ⟨v, e, h⟩
theorem s_c (h : Q v H) : tC v σ H Q := h
theorem s_op (h : ta σ H fun x H1 => tb σ H1 fun y H2 => r x y H2 Q) : tOp r ta tb σ H Q := h
theorem Ye7 (h : QA [] H) : tNil σ H QA := h
theorem Ybv (h : te σ H fun x H1 => tr σ H1 fun xs H2 => QA (x :: xs) H2) : tCons te tr σ H QA := h
theorem s_cb {rr : List V → Hp → VK → Prop} (h : tr σ H fun vs H1 => rr vs H1 Q) : tCB rr tr σ H Q := h
theorem s_call {sp : Sp} {dvs : List V} {E : XK} (h : tr σ H fun vs H1 => sp (vs ++ dvs) H1 Q E) : tCall sp dvs E tr σ H Q := h
theorem Ybc (h : te σ H fun x H1 => ∃ k, x = .bl k ∧ QB k H1) : tTest te σ H QB := h
theorem s_bl {b : Bool} {QP : Bool → Prop} (h : QP b) : ∃ k, V.bl b = .bl k ∧ QP k := ⟨b, rfl, h⟩
theorem Ye6 (h : tt σ H fun c H1 => QB (!c) H1) : tNot tt σ H QB := h
theorem Yfj (h : tt σ H fun c H1 => if c = true then tu σ H1 QB else QB false H1) : tAnd tt tu σ H QB := h
theorem s_or (h : tt σ H fun c H1 => if c = true then QB true H1 else tu σ H1 QB) : tOr tt tu σ H QB := h
theorem Yfd (h : tt σ H fun c H1 => if c = true then ta σ H1 Q else tb σ H1 Q) : tIf tt ta tb σ H Q := h
theorem Ybl {QS : L2.St → Hp → Prop} (h : QS (σ.set i (some v)) H) : gName i v σ H QS := h
theorem Ye2 {to ti : TE} {ts : TSet} {QS : L2.St → Hp → Prop} (h : to σ H fun o H1 => ti σ H1 fun i H2 => ts o i v H2 fun H3 => QS σ H3) : gSub to ti ts v σ H QS := h
theorem s_sl {rr : V → Option Int → Option Int → Hp → VK → Prop} {tl th : TO} (h : te σ H fun x H1 => tl σ H1 fun l H2 => th σ H2 fun u H3 => rr x l u H3 Q) : tSl rr te tl th σ H Q := h
theorem Z4c {QO : Option Int → Hp → Prop} (h : QO none H) : tNoPart σ H QO := h
theorem Ybh {QO : Option Int → Hp → Prop} (h : te σ H fun x H1 => ∃ i, x = .int i ∧ QO (some i) H1) : tPart te σ H QO := h
theorem Yfc {QI : Int → Prop} {i : Int} (h : QI i) : ∃ k, V.int i = .int k ∧ QI k := ⟨i, rfl, h⟩
theorem Yfa (h : tr σ H fun xs H1 => xs.length ≤ sizeLine ∧ ∀ p, H1 p = none → Q (.ref p) (upd H1 p (.lst xs))) : tLst tr σ H Q := h
theorem Ye0 (h : tr σ H fun xs H1 => xs.length ≤ sizeLine ∧ ∀ p, H1 p = none → Q (.ref p) (upd H1 p (.tup xs))) : tTup tr σ H Q := h
theorem s_bm {T : String} {rr : V → List V → Hp → VK → Prop} (h : te σ H fun x H1 => tyV K T x H1 ∧ tr σ H1 fun xs H2 => rr x xs H2 Q) : tBM K T rr te tr σ H Q := h
theorem Za8 {o : HO} (hp : H p = none) : Same H (upd H p o) := fun b u e => by
 rw [upd_ne (ne_of_none e hp)]
 exact e
end
section
variable {X : Cx}
def zApp : V → List V → Hp → VK → Prop := fun x vs H Q => match x, vs with
 | .ref l, [y] => ∃ xs, H l = some (.lst xs) ∧ xs.length < sizeLine ∧ Q .non (upd H l (.lst (xs ++ [y])))
 | _, _ => False
theorem Ycj : MtR X "list.append" zApp := by
 intro pins s σ H x vs v us Q I rx rv h
 match x, vs, h with
 | .ref l, [y], ⟨xs, h1, h2, q⟩ => exact mt_append pins s σ H _ _ v us Q I rx rv ⟨l, xs, y, rfl, rfl, h1, h2, q⟩
end
def tTru (K : PySem.W.Frag) (ta : TE) : TT := fun σ H Q => ta σ H fun x H' => ∃ k, TruV K x H' k ∧ Q k H'
theorem Zgg {K : PySem.W.Frag} {H : Hp} {a : Addr} {xs : List V} (h : H a = some (.lst xs)) : SqL K H a xs := Or.inl (Or.inl h)
theorem Zie {H : Hp} {p q : Addr} {o : HO} (h : upd H p o q = none) : H q = none ∧ q ≠ p := by
 by_cases e : q = p
 ·rw [e, upd_same] at h
  cases h
 ·rw [upd_ne e] at h
  exact ⟨h, e⟩
section
variable {H : Hp} {Q : VK} {K : PySem.W.Frag} {xs : List V} {v : V} {p : Addr} {i : Int} {n : Nat}
theorem Ybx {i j : Int} (h : Q (.int (i + j)) H) : zAdd (.int i) (.int j) H Q := h
theorem Ybd {i j : Int} (h : Q (.int (i - j)) H) : zSub (.int i) (.int j) H Q := h
theorem Ye9 {i j : Int} (h : Q (.bl (decide (i < j))) H) : zLt (.int i) (.int j) H Q := h
theorem Yfb {i j : Int} (h : Q (.bl (decide (i ≤ j))) H) : zLe (.int i) (.int j) H Q := h
theorem Yfe {i j : Int} (h : Q (.bl (decide (j < i))) H) : zGt (.int i) (.int j) H Q := h
theorem Yff {i j : Int} (h : Q (.bl (decide (j ≤ i))) H) : zGe (.int i) (.int j) H Q := h
theorem Ybr {i : Int} (h : Q (.int i) H) : zInt [.int i] H Q := h
theorem s_eq {x y : V} {b : Bool} (e : eqB x y = some b) (h : Q (.bl b) H) : zEq K x y H Q := by
 unfold zEq
 rw [e]
 exact h
theorem s_ne {x y : V} {b : Bool} (e : eqB x y = some b) (h : Q (.bl (!b)) H) : zNe K x y H Q := by
 unfold zNe
 rw [e]
 exact h
end
abbrev BagC (H : Hp) (b c : Addr) : Prop := ∃ (ns : List Int) (pos rest seed : Int), H b = some (.lst [.ref c, .int pos, .int rest, .int seed]) ∧ H c = some (.lst (ns.map V.int)) ∧ c ≠ b ∧ 0 ≤ pos
def Bag (H : Hp) (b : Addr) : Prop := ∃ c, BagC H b c
theorem BagC.same {H H' : Hp} {b c : Addr} (h : BagC H b c) (s : Same H H') : BagC H' b c := by
 obtain ⟨ns, pos, rest, seed, h1, h2, h3, h4⟩ := h
 exact ⟨ns, pos, rest, seed, s _ _ h1, s _ _ h2, h3, h4⟩
theorem BagC.ne {H : Hp} {b c D : Addr} (h : BagC H b c) (hD : H D = none) : D ≠ b ∧ D ≠ c := by
 obtain ⟨ns, pos, rest, seed, g1, g2, g3, g4⟩ := h
 exact ⟨(ne_of_none g1 hD).symm, (ne_of_none g2 hD).symm⟩
structure Bst (b : Addr) (H H' : Hp) : Prop where
 keep : ∀ a o, a ≠ b → H a = some o → H' a = some o
 bag : Bag H' b
 cell : ∀ c, BagC H b c → BagC H' b c
theorem Bag.some {H : Hp} {b : Addr} (h : Bag H b) : ∃ o, H b = some o := by
 obtain ⟨c, ns, pos, rest, seed, h, _⟩ := h
 exact ⟨_, h⟩
theorem Bst.refl {b : Addr} {H : Hp} (h : Bag H b) : Bst b H H := ⟨fun _ _ _ z => z, h, fun _ z => z⟩
theorem Bst.trans {b : Addr} {H H1 H2 : Hp} (a : Bst b H H1) (c : Bst b H1 H2) : Bst b H H2 := ⟨fun x o hx h => c.keep x o hx (a.keep x o hx h), c.bag, fun d z => c.cell d (a.cell d z)⟩
theorem Bst.fresh {b : Addr} {H H' : Hp} (a : Bst b H H') {p : Addr} (h : H' p = none) : H p = none := by
 cases e : H p with
 | none => rfl
 | some o =>
  by_cases hb : p = b
  ·obtain ⟨u, hu⟩ := a.bag.some
   rw [hb, hu] at h
   cases h
  ·rw [a.keep p o hb e] at h
   cases h
theorem Bag.same {H H' : Hp} {b : Addr} (h : Bag H b) (s : Same H H') : Bag H' b := by
 obtain ⟨c, ns, pos, rest, seed, h1, h2, h3, h4⟩ := h
 exact ⟨c, ns, pos, rest, seed, s _ _ h1, s _ _ h2, h3, h4⟩
def spX1 (C : Addr) (f : Str) : Sp := fun vs H Q _ => ∃ (a : Addr) (v : V), vs = [.ref a, v] ∧ H a = some (exo a C none) ∧ ∀ d, H d = none → d ≠ a → Q .non (upd (upd H d (exd d [(f, v)])) a (exo a C (some d)))
def spX2 (C : Addr) (f g : Str) : Sp := fun vs H Q _ => ∃ (a : Addr) (v u : V), vs = [.ref a, v, u] ∧ H a = some (exo a C none) ∧ ∀ d, H d = none → d ≠ a → Q .non (upd (upd (upd H d (exd d [(f, v)])) a (exo a C (some d))) d (exd d [(g, u), (f, v)]))
theorem Z1t {C : Addr} {f : Str} (vs : List V) (H : Hp) (Q : VK) (E : XK) (h : spX1 C f vs H Q E) : vs.length = 2 := by
 obtain ⟨a, v, rfl, _⟩ := h
 rfl
theorem Ycm {C : Addr} {f g : Str} (vs : List V) (H : Hp) (Q : VK) (E : XK) (h : spX2 C f g vs H Q E) : vs.length = 3 := by
 obtain ⟨a, v, u, rfl, _⟩ := h
 rfl
def XF (H : Hp) (a C : Addr) (fs : List (Str × V)) : Prop := ∃ d, H a = some (exo a C (some d)) ∧ H d = some (exd d fs)
theorem XF.same {H H' : Hp} {a C : Addr} {fs : List (Str × V)} (h : XF H a C fs) (s : Same H H') : XF H' a C fs := by
 obtain ⟨d, h1, h2⟩ := h
 exact ⟨d, s _ _ h1, s _ _ h2⟩
theorem XF.at {H : Hp} {a C : Addr} {fs : List (Str × V)} (h : XF H a C fs) : XAt H a C := by
 obtain ⟨d, h1, h2⟩ := h
 exact Or.inr ⟨d, fs, h1, h2⟩
theorem XAt.same {H H' : Hp} {a C : Addr} (h : XAt H a C) (s : Same H H') : XAt H' a C := by
 rcases h with h | ⟨d, fs, h1, h2⟩
 ·exact Or.inl (s _ _ h)
 ·exact Or.inr ⟨d, fs, s _ _ h1, s _ _ h2⟩
theorem Zvj {K : PySem.W.Frag} {C : Addr} {f : Str} {l : List Nat} (T : OexC K C) (no : PySem.W.findIn K (.ref C) f = some none) {x y : Str} (vs : List V) (H : Hp) (Q : VK) (E : XK) (h : spX1 C f vs H Q E) :
  tSeq (tDrop (tVeI K (tCons (tVar 0) (tCons (tC (sv l)) tNil)))) (tOst K f (tVar 0) (tVar 1)) { nx := fun _ H' => Q .non H', rt := Q } (start [x, y] vs) H := by
 obtain ⟨a, v, rfl, ha, k⟩ := h
 refine ⟨_, rfl, a, C, _, rfl, by show 1 ≤ 1000; decide, T, ha, ?_⟩
 exact ⟨_, rfl, _, rfl, a, C, rfl, T, no, Or.inl ⟨ha, fun d hd ne => k d hd ne⟩⟩
theorem Z8y {K : PySem.W.Frag} {C : Addr} {f g : Str} {l : List Nat} (T : OexC K C) (no : PySem.W.findIn K (.ref C) f = some none) (no2 : PySem.W.findIn K (.ref C) g = some none) {x y z : Str} (vs : List V) (H : Hp) (Q : VK) (E : XK) (h : spX2 C f g vs H Q E) :
  tSeq (tDrop (tVeI K (tCons (tVar 0) (tCons (tC (sv l)) tNil)))) (tSeq (tOst K f (tVar 0) (tVar 1)) (tOst K g (tVar 0) (tVar 2))) { nx := fun _ H' => Q .non H', rt := Q } (start [x, y, z] vs) H := by
 obtain ⟨a, v, u, rfl, ha, k⟩ := h
 refine ⟨_, rfl, a, C, _, rfl, by show 1 ≤ 1000; decide, T, ha, ?_⟩
 refine ⟨_, rfl, _, rfl, a, C, rfl, T, no, Or.inl ⟨ha, fun d hd ne => ?_⟩⟩
 exact ⟨_, rfl, _, rfl, a, C, rfl, T, no2, Or.inr ⟨d, _, upd_same, by rw [upd_ne ne, upd_same], by show 1 ≤ 900; decide, k d hd ne⟩⟩
theorem Zjv {α β : Type} (f : α → β) (z : List α) (lo hi : Option Int) : cut (z.map f) lo hi = (cut z lo hi).map f := by
 unfold cut
 rw [Ls, List.map_drop, Qb]
def flat : V → Bool
 | .non | .bl _ | .int _ => true
 | .str x => PyData.strOk x
 | _ => false
section
variable {K : PySem.W.Frag} {H : Hp}
theorem Yey {f : Str} {te : TE} {σ : L2.St} {Q : VK} (h : te σ H fun x H1 => ∃ (a C d : Addr) (fs : List (Str × V)) (v : V), x = .ref a ∧ XfC K C ∧ PySem.W.findIn K (.ref C) f = some none ∧ H1 a = some (exo a C (some d)) ∧ H1 d = some (exd d fs) ∧ fs.lookup f = some v ∧ Q v H1) : tXfv K f te σ H Q := h
theorem Ye1 {te : TE} {σ : L2.St} {QB : Bool → Hp → Prop} (h : te σ H fun x H' => ∃ k, TruV K x H' k ∧ QB k H') : tTru K te σ H QB := h
theorem Yex {σ : L2.St} {QB : Bool → Hp → Prop} (h : QB true H) : tYes σ H QB := h
end
abbrev asc (l : List Nat) : Prop := ∀ c ∈ l, c < 128
abbrev sgs (z : List Nat) : List V := z.map fun c => sv [c]
theorem Z6p (z : List Nat) : sgs z = (z.map fun c => S [c]).map V.str := by
 rw [Qq]
 rfl
theorem Zyi {z : List Nat} {acc : Array Value} (h : ItemsOf (SignAt (S z)) acc (S z).cps.size) : Vals (sgs z) acc.toList := by
 refine vals_of_idx _ _ ?_ fun j u hj => ?_
 ·rw [Qb, Ge, h.1]
  rfl
 ·obtain ⟨c, t, hc, rfl⟩ := h.2 j u (by rw [← Tg]; exact hj)
  have hz : z[j]? = some c := by simpa using hc
  exact ⟨sv [c], by rw [Qn, hz]; rfl, ⟨t, rfl⟩⟩
theorem Zyj {z : List Nat} {acc : Array Value} (h : ItemsOf (SignAt (S z)) acc (S z).cps.size) : StrsAre acc.toList (z.map fun c => S [c]) := by
 refine L2.strs_at ?_ fun j v hj => ?_
 ·rw [Qb, Ge, h.1]
  rfl
 ·obtain ⟨c, t, hc, rfl⟩ := h.2 j v (by rw [← Tg]; exact hj)
  have hz : z[j]? = some c := by simpa using hc
  exact ⟨S [c], t, by rw [Qn, hz]; rfl, rfl⟩
section
variable {X : Cx}
def Zr8 (K : PySem.W.Frag) : List V → Hp → VK → Prop := fun xs H Q => match xs with
 | [.ref p] => ∃ ys, (SqL K H p ys ∨ SqT K H p ys) ∧ ∀ l, H l = none → Q (.ref l) (upd H l (.lst ys))
 | [.str ⟨⟨z⟩⟩] => z.length ≤ sizeLine ∧ ∀ l, H l = none → Q (.ref l) (upd H l (.lst (sgs z)))
 | _ => False
theorem Z5p (hc : X.calm = true) : CallR X (.type "list") (Zr8 X.K) := by
 intro pins s σ H xs us Q I r h
 match xs, h with
 | [.ref p], ⟨ys, h1, q⟩ => exact call_list_of pins s σ H _ us Q I r ⟨p, ys, rfl, h1, q⟩
 | [.str ⟨⟨z⟩⟩], ⟨hz, q⟩ =>
  obtain ⟨u, rfl, t, rfl⟩ := vals1 r
  refine call_list_str (I.ok.hd hc) _ t (fun h' tk acc c' hk e hi => ?_) hz
  refine ⟨.ref s.heap.objs.size, upd H s.heap.objs.size (.lst (sgs z)), I.laid hk (Qu _) ⟨by rw [Qb]; exact hz, acc.toList, c', Zyi hi, by rw [Lf]; exact e⟩, rfl, q _ (I.hok.fresh (Qu _))⟩
def Zzd (K : PySem.W.Frag) : List V → Hp → VK → Prop := fun xs H Q => match xs with
 | [.ref a] => ∃ ys : List Str, SqL K H a (ys.map V.str) ∧ ys.length < 64 ∧ ∀ (zs : List Str) (p : Addr), zs.Perm ys → sortedS zs = true → H p = none → Q (.ref p) (upd H p (.lst (zs.map V.str)))
 | [.str ⟨⟨z⟩⟩] => z.length < 64 ∧ ∀ (zs : List Str) (p : Addr), zs.Perm (z.map fun c => S [c]) → sortedS zs = true → H p = none → Q (.ref p) (upd H p (.lst (zs.map V.str)))
 | _ => False
theorem Z2w (hc : X.calm = true) : CallR X (.builtin "sorted") (Zzd X.K) := by
 intro pins s σ H xs us Q I r h
 match xs, h with
 | [.ref a], ⟨ys, h1, h2, q⟩ => exact cr_sortedS pins s σ H _ us Q I r ⟨a, ys, rfl, h1, h2, q⟩
 | [.str ⟨⟨z⟩⟩], ⟨h64, q⟩ =>
  obtain ⟨u, rfl, t, rfl⟩ := vals1 r
  refine Calls.call_function_entry PyProof.Rows.kind_sorted PyProof.Rows.plain_sorted PyProof.Rows.entry_sorted (PyProof.Rows.args_sorted1 _) ?_
  unfold Builtin.«sorted»
  refine wpAny_bind (m := checkCount "sorted" 1 1 _) (wpAny_pure ?_)
  refine wpAny_bind (wpAny_collect_str (A := X.A.in1) (I.ok.hd hc) (S z) t (fun s1 acc hk hg hd ho hacc => ?_) (by show z.length ≤ sizeLine; rw [sizeLine_eq]; omega))
  have hS := Zyj hacc
  have hal : acc.toList.length = z.length := by rw [Ge, hacc.1]; rfl
  obtain ⟨hp, g1, d1, tk, o1⟩ := s1
  have eg : g1 = s.gens := hg
  have eo : o1 = s.os := ho
  have ed : d1 = s.drawn := hd
  subst eg eo ed
  have I1 : Inv X pins σ H { s with heap := hp, toks := tk } := I.kept hk
  refine wpAny_bind (wpAny_newList ?_ (by rw [hal, sizeLine_eq]; omega))
  have hoL : (hp.push (seqObj "list" acc.toList.toArray 0)).get? hp.objs.size = some (seqObj "list" acc.toList.toArray 0) := Heap.get?_push_size _ rfl
  show wpAny _ _ _ _ _ { s with heap := hp.push (seqObj "list" acc.toList.toArray 0), toks := tk }
  refine wpAny_bind (wpAny_holding (wpAny_call_entry PyProof.Rows.slot_list_sort ⟨_, hoL, rfl⟩ PyProof.Rows.entry_list_sort (list_sort_treeK strKind_oneLt (s := { s with heap := hp.push (seqObj "list" acc.toList.toArray 0), toks := tk }) hoL hS.keysOf
   (fun v₁ v₂ rest e => keyKind_strs (by rw [← e]; exact hS)) (by rw [hal]; exact h64) fun st' hpm hs => ⟨_, rfl, ?_⟩) (PyProof.Rows.args_list_sort _)))
  obtain ⟨zs, k1, k2, k3⟩ := sorted_out_str hS hpm hs
  obtain ⟨e', he'⟩ := PyProof.Rows.sortedHeap_at (vs := acc.toList) (out := (arrOf st').map (·.2)) hoL
  have hlen : (zs.map V.str).length ≤ sizeLine := by
   rw [Qb, k2.length_eq, Qb, sizeLine_eq]
   omega
  refine wpAny_pure ⟨_, rfl, .ref hp.objs.size, upd H hp.objs.size (.lst (zs.map V.str)), I1.laid (t' := tk) (fun b u e => ?_) (Qu _)
   (show ObjOk X.prog X.w _ _ _ (.lst (zs.map V.str)) from ⟨hlen, ((arrOf st').map (·.2)).toList, e', vals_of_strs k1, by rw [Lf]; exact he'⟩), rfl, q zs _ k2 k3 (I1.hok.fresh (Qu _))⟩
  have hb : b < hp.objs.size := Heap.lt_size e
  rw [PyProof.Rows.sortedHeap_old (Gy hb) (by rw [size_push']; exact Nat.lt_succ_of_lt hb)]
  exact Heap.get?_push_of_some _ e
end
end Cl
namespace Cl
open PySem PySem.Spec PyProof.Rows L2 He PySem.Froz
structure TxR (P : Program) (w : World) (D : SD) (l : List Str) : Prop where
 ok : TxOk P w D l
 ris : Ris D.2.2.place.toList
 led : w.params.followText "set-order" = true ∨ D.2.2.led = true
theorem Z30 {ep : Nat} {es : Array (Int × Value)} {t : SetTable} {d : Bool} (h : Ris t.place.toList) : Ris (tailTx ep es t d).2.2.place.toList := by
 unfold tailTx
 split
 ·exact relayAll_ris t es _
 ·exact h
theorem Z31 {ep : Nat} {es : Array (Int × Value)} {t : SetTable} {d : Bool} : (tailTx ep es t d).2.2.led = t.led := by
 unfold tailTx
 split
 ·exact relayAll_led t es _
 ·rfl
section
variable {P : Program} {w : World} {A : Around} {E : Value → Shared → Prop} {s : Shared}
theorem TxR.add {D : SD} {l : List Str} {k : Str} (u : Tok) (T : TxR P w D l) : TxR P w (addTx (hashStr w k) (.str k u) D) (k :: l) := by
 refine ⟨add_ok u T.ok, ?_, ?_⟩
 ·unfold addTx
  refine Z30 ?_
  split
  ·exact layNew_ris _ _ _ _ T.ris
  ·exact layNew_ris _ _ _ _ T.ris
 ·refine T.led.imp id fun h => ?_
  unfold addTx
  rw [Z31]
  split
  ·show (layNew D.2.2 D.1 (hashStr w k) (.str k u)).2.1.led = true
   rw [layNew_led]
   exact h
  ·rw [layNew_led]
   exact h
theorem Yar {a : Addr} {D : SD} {l : List Str} {k : Str} {u : Tok} {Q : Bool → Shared → Prop} (ho : s.heap.get? a = some (sObj "set" D)) (F : TxOk P w D l) (hk : k ∈ l) (hb : l.length < scanBound) (h : Q false s) :
  wpAny (model P w) A (setAddHashed a (.str k u) (hashStr w k)) Q E s := by
 obtain ⟨es, ep, t⟩ := D
 have hb0 : es.size < scanBound := by rw [show es.size = l.length from F.sz]; exact hb
 have hsome : ∃ j, List.findIdx? (fun e => (strKind P w).is k e.2) es.toList = some j := by
  cases q : List.findIdx? (fun e => (strKind P w).is k e.2) es.toList with
  | some j => exact ⟨j, rfl⟩
  | none =>
   obtain ⟨e, he, hp⟩ := (F.mem k).mp hk
   have z := List.findIdx?_eq_none_iff.mp q e he
   rw [hp] at z
   cases z
 obtain ⟨j, hj⟩ := hsome
 unfold setAddHashed setAddHashedIn
 refine wpAny_holding (wpAny_bind (wpAny_setState_of ho rfl F.fit ?_))
 dsimp only
 rw [byScan_of rfl hb0 F.el]
 simp only [↓reduceIte]
 unfold setAddByScan
 refine wpAny_bind (wpAny_bind (wpAny_rule (wpAny_bind (wpAny_setScan_of (knd := strKind P w) (k := k) (Froz.is_str k u) ho rfl F.fit F.el ?_))))
 rw [hj]
 dsimp only
 exact wpAny_pure (wpAny_pure h)
end
section
variable {P : Program} {w : World} {A : Around} {R : Result → Shared → Prop} {I : Addr} {fp wr : List Addr} {G : Array GenState → Array GenState → Prop} {n : Nat} {Pv : Nat → Value → Prop} {St : Nat → Shared → Prop}
theorem Z39 (W : WalksS P w A.in1 I fp wr G n Pv St) (a : Addr) (ha : a ∉ fp) (val : Nat → Str) (hval : ∀ i v, Pv i v → ∃ t, v = .str (val i) t) (hb : n + 1 < scanBound) : ∀ (k i : Nat) (s : Shared) (D : SD) (l : List Str), n - i = k → i ≤ n → St i s →
  s.heap.get? a = some (sObj "set" D) → TxR P w D l → l.Nodup → l.length ≤ i →
  (∀ s' D' l', Moved (a :: wr) G s s' → s'.heap.get? a = some (sObj "set" D') → TxR P w D' l' → l'.Nodup → (∀ x, x ∈ l' ↔ x ∈ l ∨ ∃ j, i ≤ j ∧ j < n ∧ x = val j) → l'.length ≤ n → R (.ok (.ret .none)) s') →
  codeAny (model P w) A (.builtin "set.update.loop" ⟨[.ref a, .ref I], []⟩) R s := by
 have haw : a ∉ wr := fun h => ha (W.sub _ h)
 have up : ∀ b ∈ wr, b ∈ a :: wr := fun b h => Qk _ h
 intro k
 induction k with
 | zero =>
  intro i s D l hk hi st ho T nd hl hR
  obtain rfl : i = n := by omega
  refine codeAny_builtin PyProof.Rows.F.entry_set_update_loop ?_
  rw [Around.under_plainId PyProof.Rows.F.plain_set_update_loop _]
  refine wpAny_bind (W.done s _ _ st fun s' hm => wpAny_pure (hR s' D l (hm.mono up) (hm.heap a _ haw ho) T nd (fun x => ⟨Or.inl, fun h => ?_⟩) hl))
  rcases h with h | ⟨j, h1, h2, _⟩
  ·exact h
  ·omega
 | succ k ih =>
  intro i s D l hk hi st ho T nd hl hR
  have hlt : i < n := by omega
  refine codeAny_builtin PyProof.Rows.F.entry_set_update_loop ?_
  rw [Around.under_plainId PyProof.Rows.F.plain_set_update_loop _]
  refine wpAny_bind (W.item i s _ _ hlt st fun v s1 hv st1 hm => ?_)
  obtain ⟨t, rfl⟩ := hval i v hv
  have ho1 := hm.heap a _ haw ho
  refine wpAny_bind (wpAny_holding ?_)
  unfold setAdd
  refine wpAny_holding (wpAny_bind ((strKind P w).pyHash (k := val i) (Froz.is_str _ _) ?_))
  have go : ∀ (h2 : Heap) (D2 : SD) (l2 : List Str), (∀ b o, b ≠ a → s1.heap.get? b = some o → h2.get? b = some o) → h2.get? a = some (sObj "set" D2) → TxR P w D2 l2 → l2.Nodup → l2.length ≤ i + 1 → (∀ x, x ∈ l2 ↔ x ∈ l ∨ x = val i) →
    codeAny (model P w) A (.builtin "set.update.loop" ⟨[.ref a, .ref I], []⟩) R { s1 with heap := h2, toks := s1.toks + 1 } := fun h2 D2 l2 kp ho2 T2 nd2 hl2 m2 => by
   refine ih (i + 1) _ D2 l2 (by omega) hlt (W.frame _ s1 _ _ st1 (Ta _) fun b hb o e => kp b o (fun z => ha (z ▸ hb)) e) ho2 T2 nd2 hl2 fun s' D' l' mv ho' T' nd' m' hl' => ?_
   refine hR s' D' l' (Moved.trans W.gtrans ((hm.mono up).then_heap (Ta _) fun b o hb e => kp b o (fun z => hb (by rw [z]; exact Qo)) e) mv) ho' T' nd' (fun x => ?_) hl'
   rw [m', m2]
   constructor
   ·rintro ((h | h) | ⟨j, h1, h2, h3⟩)
    ·exact Or.inl h
    ·exact Or.inr ⟨i, Qu _, hlt, h⟩
    ·exact Or.inr ⟨j, by omega, h2, h3⟩
   ·rintro (h | ⟨j, h1, h2, h3⟩)
    ·exact Or.inl (Or.inl h)
    ·by_cases e : j = i
     ·exact Or.inl (Or.inr (e ▸ h3))
     ·exact Or.inr ⟨j, by omega, h2, h3⟩
  by_cases hin : val i ∈ l
  ·refine Yar (s := { s1 with toks := s1.toks + 1 }) ho1 T.ok hin (by omega) (wpAny_pure ⟨plainId_quiet PyProof.Rows.F.plain_set_update_loop _, ?_⟩)
   exact go s1.heap D l (fun _ _ _ e => e) ho1 T nd (by omega) fun x => ⟨Or.inl, fun h => h.elim id fun e => e ▸ hin⟩
  ·refine add_x (s := { s1 with toks := s1.toks + 1 }) ho1 T.ok hin (by omega) (wpAny_pure ⟨plainId_quiet PyProof.Rows.F.plain_set_update_loop _, ?_⟩)
   refine go _ _ (val i :: l) (fun b o hb e => (Heap.get?_update_other _ _ (Ne.symm hb)).trans e) (Froz.get_upd _ ho1 rfl) (T.add t) (Hf.mpr ⟨hin, nd⟩) (by show l.length + 1 ≤ i + 1; omega) fun x => ?_
   rw [Qg]
   exact Or.comm
end
abbrev nD (w : World) : SD := (#[], 0, .fresh 0 0 (!w.params.followText "set-order"))
theorem Yfx (P : Program) (w : World) : TxR P w (nD w) [] := by
 refine ⟨TxOk.nil rfl, List.Pairwise.nil, ?_⟩
 show _ ∨ (!w.params.followText "set-order") = true
 cases w.params.followText "set-order"
 ·exact .inr rfl
 ·exact .inl rfl
section
variable {P : Program} {w : World} {A : Around} {E : Value → Shared → Prop} {s : Shared}
theorem Z21 (v : Value) {Q₁ : Value → Shared → Prop} (h : Q₁ (.ref s.heap.objs.size) { s with heap := s.heap.push (sObj "set" (nD w)) }) : codeAny (model P w) A (.call (.builtin "set.__new__") ⟨[.type "set", v], []⟩) (wants Q₁ E) s := by
 refine codeAny_of_tree ?_
 refine wpAny_bind (wpAny_of_eq (PySem.F.newCall_set_1 v) (wpAny_pure ⟨plainId_quiet F.plain_set_new _, codeAny_builtin F.entry_set_new ?_⟩))
 rw [Around.under_plainId F.plain_set_new _]
 unfold Builtin.«set.__new__» Builtin.Frozenset.newClass
 have hsub := sub_set_self
 obtain ⟨hp, g, d, tk, os⟩ := s
 dsimp only
 wp_walk
 refine wpAny_askSetting (wpAny_pure ?_)
 dsimp only
 simp only [newObj]
 exact wpAny_bind (wpAny_alloc (wpAny_pure (wpAny_pure h)))
end
theorem sub_str_set : isSubtype (.type "str") (.type "set") = pure false := by rw [isSubtype_type]; kernel_rfl
theorem Zye : isSubtype (.type "str") (.type "frozenset") = pure false := by rw [isSubtype_type]; kernel_rfl
section
variable {P : Program} {w : World} {A : Around} {E : Value → Shared → Prop} {s : Shared}
theorem Zui {z : List Nat} {tz : Tok} {Q : Value → Shared → Prop} (hh : A.handled = none) (hb : z.length + 1 < scanBound)
  (h : ∀ (h' : Heap) (tk : Nat) (D : SD) (l : List Str), h'.get? s.heap.objs.size = some (sObj "set" D) → TxR P w D l → l.Nodup → (∀ x, x ∈ l ↔ ∃ c ∈ z, x = S [c]) → l.length ≤ z.length →
   (∀ b o, s.heap.get? b = some o → h'.get? b = some o) → Q (.ref s.heap.objs.size) { s with heap := h', toks := tk }) :
  wpAny (model P w) A (call (.type "set") [.str (S z) tz]) Q E s := by
 obtain ⟨c, tl, hmro⟩ := PySem.F.called_set.mro
 have hmade := PySem.F.called_set.made
 have hsub := PySem.F.called_set.sub
 refine wpAny_call (codeAny_of_tree ?_)
 show wpAny _ _ (callAny (.type "set") _) _ _ _
 refine wpAny_pure ⟨Code.quiet_builtin _ (by decide +kernel), codeAny_builtin PySem.F.entry_type_call ?_⟩
 rw [Around.under_plain (weight_type_call_type "set" [.str (S z) tz] []) rfl]
 have h1 := PySem.F.called_set.notType
 have h2 := PySem.F.called_set.canCreate
 have hct := PySem.F.typeCall_set_1 (.str (S z) tz)
 wp_delta
 (with_reducible apply wpAny_ite_false); focus (rfl; done)
 (with_reducible apply wpAny_ite_false); focus (rfl; done)
 with_reducible refine wpAny_bind ?_
 with_reducible refine wpAny_of_eq (by assumption)  ?_
 with_reducible refine wpAny_bind ?_
 with_reducible refine wpAny_of_eq (by assumption)  ?_
 (with_reducible apply wpAny_ite_false); focus (rfl; done)
 with_reducible refine wpAny_bind ?_
 with_reducible refine wpAny_of_eq (by assumption)  ?_
 with_reducible refine wpAny_bind ?_
 with_reducible refine wpAny_pure ?_
 with_reducible refine wpAny_bind ?_
 with_reducible refine wpAny_holding ?_
 with_reducible refine wpAny_call ?_
 refine codeAny_mono (Z21 (.str (S z) tz) (E := E) (Q₁ := fun obj s₁ => obj = .ref s.heap.objs.size ∧ s₁ = { s with heap := s.heap.push (sObj "set" (nD w)) }) ⟨rfl, rfl⟩) fun r s₁ hr => ?_
 cases r with
 | error e => exact hr
 | ok fl =>
  cases fl with
  | ret obj =>
   obtain ⟨rfl, rfl⟩ := hr
   have hS : (s.heap.push (sObj "set" (nD w))).get? s.heap.objs.size = some (sObj "set" (nD w)) := Heap.get?_push_size _ rfl
   have hT : Shared.TypeIs { s with heap := s.heap.push (sObj "set" (nD w)) } (.ref s.heap.objs.size) "set" := ⟨_, hS, rfl⟩
   have hli := PySem.F.called_set.init.lookup
   have hbi := PySem.F.called_set.init.bind (.ref s.heap.objs.size)
   with_reducible refine wpAny_bind ?_
   with_reducible refine wpAny_isInstance (by assumption) (by assumption)  ?_
   (with_reducible apply wpAny_ite_false); focus (rfl; done)
   with_reducible refine wpAny_bind ?_
   with_reducible refine wpAny_holding ?_
   wp_delta
   with_reducible refine wpAny_bind ?_
   with_reducible refine wpAny_specialOf (by assumption) (by assumption)  ?_
   with_reducible refine wpAny_holding ?_
   with_reducible refine wpAny_bind ?_
   with_reducible refine wpAny_of_eq (by assumption)  ?_
   with_reducible refine wpAny_bind ?_
   with_reducible refine wpAny_call ?_
   refine codeAny_mono (codeAny_call_builtin (R := wants (fun r s₂ => r = .none ∧ ∃ h' tk D l, s₂ = { s with heap := h', toks := tk } ∧ h'.get? s.heap.objs.size = some (sObj "set" D) ∧ TxR P w D l ∧ l.Nodup ∧ (∀ x, x ∈ l ↔ ∃ c ∈ z, x = S [c]) ∧ l.length ≤ z.length ∧
    (∀ b o, s.heap.get? b = some o → h'.get? b = some o)) E) PySem.F.called_set.init.plain PySem.F.entry_set_init (check_set_init_1 hT ?_)) fun r₂ s₂ hr₂ => ?_
   ·have e1 := sub_str_set
    have e2 := Zye
    have e3 : (Value.type "str" == Value.type "dict") = false := by decide
    unfold Builtin.«set.__init__» noKeywords Builtin.Frozenset.updateFrom
    generalize hPI : pyIter = PI
    with_reducible refine wpAny_bind ?_
    (with_reducible apply wpAny_ite_true); focus (rfl; done)
    with_reducible refine wpAny_pure ?_
    wp_delta
    with_reducible refine wpAny_bind ?_
    wp_delta
    with_reducible refine wpAny_bind ?_
    wp_delta
    with_reducible refine wpAny_bind ?_
    with_reducible refine wpAny_typeOf (by assumption)  ?_
    (with_reducible apply wpAny_ite_false); focus (rfl; done)
    with_reducible refine wpAny_pure ?_
    wp_delta
    wp_delta
    with_reducible refine wpAny_pure ?_
    with_reducible refine wpAny_bind ?_
    wp_delta
    (with_reducible apply wpAny_ite_false); focus (rfl; done)
    (with_reducible apply wpAny_ite_false); focus (rfl; done)
    (with_reducible apply wpAny_ite_false); focus (rfl; done)
    with_reducible refine wpAny_pure ?_
    with_reducible refine wpAny_bind ?_
    wp_delta
    with_reducible refine wpAny_pure ?_
    with_reducible refine wpAny_bind ?_
    wp_delta
    with_reducible refine wpAny_bind ?_
    wp_delta
    with_reducible refine wpAny_bind ?_
    (with_reducible apply wpAny_load'); focus (heap_get; done)
    wp_delta
    (with_reducible apply wpAny_ite_false); focus (rfl; done)
    with_reducible refine wpAny_pure ?_
    with_reducible refine wpAny_pure ?_
    (with_reducible apply wpAny_ite_false); focus (rfl; done)
    wp_delta
    with_reducible refine wpAny_bind ?_
    with_reducible refine wpAny_bind ?_
    wp_delta
    wp_delta
    with_reducible refine wpAny_bind ?_
    wp_delta
    with_reducible refine wpAny_bind ?_
    wp_delta
    with_reducible refine wpAny_pure ?_
    with_reducible refine wpAny_of_eq (by assumption)  ?_
    wp_delta
    wp_delta
    with_reducible refine wpAny_bind ?_
    wp_delta
    with_reducible refine wpAny_pure ?_
    with_reducible refine wpAny_of_eq (by assumption)  ?_
    (with_reducible apply wpAny_ite_false); focus (rfl; done)
    with_reducible refine wpAny_bind ?_
    wp_delta
    with_reducible refine wpAny_pure ?_
    (with_reducible apply wpAny_ite_false); focus (rfl; done)
    with_reducible refine wpAny_bind ?_
    subst hPI
    refine wpAny_pyIter_str fun o St W hst => ?_
    refine wpAny_bind (wpAny_runValue ?_)
    have hh3 : A.in1.in1.in1.handled = none := by simp [hh]
    have ne : s.heap.objs.size ≠ (s.heap.push (sObj "set" (nD w))).objs.size := by
     rw [Heap.size_push]
     exact Gy (Nat.lt_succ_self _)
    refine Z39 ((W _ hh3).toS) s.heap.objs.size (fun m => ne (Qj.mp m)) (fun i => S [z.getD i 0]) (fun i v hv => ?_) hb (z.length - 0) 0 _ (nD w) [] (by show z.length - 0 = _; omega) (Qr _) hst
     (Heap.get?_push_of_some _ hS) (Yfx P w) H5 (Qu _) fun s' D l mv ho T nd m hl => ?_
    ·obtain ⟨c, u, hc, rfl⟩ := hv
     have hz : z[i]? = some c := by simpa using hc
     exact ⟨u, by rw [Ql, hz]; rfl⟩
    ·obtain ⟨h', g', d', tk', os'⟩ := s'
     have eg : g' = s.gens := mv.gens
     have ed : d' = s.drawn := mv.drawn
     have eo : os' = s.os := mv.os
     subst eg ed eo
     refine wpAny_pure (wpAny_pure ⟨rfl, h', tk', D, l, rfl, ho, T, nd, fun x => ?_, hl, fun b u e => ?_⟩)
     ·rw [m x]
      constructor
      ·rintro (q | ⟨j, _, hj, rfl⟩)
       ·cases q
       ·have hj' : j < z.length := hj
        exact ⟨z[j], Ho hj', by rw [Ql, Qf hj']; rfl⟩
      ·rintro ⟨c, hc, rfl⟩
       obtain ⟨j, hj, e⟩ := Lg.mp hc
       exact Or.inr ⟨j, Qr _, hj, by rw [Ql, Qf hj, e]; rfl⟩
     ·have hlt := Heap.lt_size e
      refine mv.heap b u (fun q => ?_) (Heap.get?_push_of_some _ (Heap.get?_push_of_some _ e))
      rcases Qg.mp q with q | q
      ·exact absurd q (Gy hlt)
      ·have q2 := Qj.mp q
       have e2 : (s.heap.push (sObj "set" (nD w))).objs.size = s.heap.objs.size + 1 := by rw [Heap.size_push]
       have q3 : b = (s.heap.push (sObj "set" (nD w))).objs.size := q2
       exact absurd hlt (by rw [q3, e2]; exact Nat.not_lt.mpr (Ta _))
   ·cases r₂ with
    | error e => exact hr₂
    | ok fl₂ =>
     cases fl₂ with
     | ret r =>
      obtain ⟨rfl, h', tk, D, l, rfl, k1, k2, k3, k4, k5, k6⟩ := hr₂
      with_reducible refine wpAny_pure ?_
      (with_reducible apply wpAny_ite_false); focus (rfl; done)
      wp_delta
      wp_delta
      with_reducible refine wpAny_pure ?_
      exact h h' tk D l k1 k2 k3 k4 k5 k6
     | _ => exact hr₂.elim
  | _ => exact hr.elim
end
theorem Zvl {α : Type} [BEq α] [LawfulBEq α] : ∀ {l m : List α}, l.Nodup → (∀ x, x ∈ l → x ∈ m) → m.length ≤ l.length → m.Perm l
 | [], m, _, _, h => by
  have : m = [] := Gg.mp (by simpa using h)
  rw [this]
 | x :: t, m, nd, sub, h => by
  obtain ⟨hx, nt⟩ := Hf.mp nd
  have hm := sub x Qo
  have p := Lh hm
  have l1 := p.length_eq
  simp only [Qe] at l1 h
  have ih := Zvl (l := t) (m := m.erase x) nt (fun y hy => (Li (fun e => hx (by rw [← e]; exact hy))).mpr (sub y (Qk _ hy))) (by omega)
  exact p.trans (ih.cons x)
theorem Zh2 {α : Type} [BEq α] [LawfulBEq α] : ∀ {l m : List α}, l.Nodup → (∀ x, x ∈ l → x ∈ m) → l.length ≤ m.length
 | [], m, _, _ => Qr _
 | x :: t, m, nd, sub => by
  obtain ⟨hx, nt⟩ := Hf.mp nd
  have p := Lh (sub x Qo)
  have l1 := p.length_eq
  simp only [Qe] at l1 ⊢
  have ih := Zh2 (l := t) (m := m.erase x) nt (fun y hy => (Li (fun e => hx (by rw [← e]; exact hy))).mpr (sub y (Qk _ hy)))
  omega
def TxS (P : Program) (w : World) (a : Addr) (l : List Str) : HO := .ext fun h => ∃ D, h.get? a = some (sObj "set" D) ∧ TxR P w D l
theorem Ya1 {P : Program} {w : World} {H : Hp} {h : Heap} {a : Addr} {D : SD} {l : List Str} (e : h.get? a = some (sObj "set" D)) (T : TxR P w D l) : ObjOk P w H h a (TxS P w a l) :=
 ⟨⟨D, e, T⟩, ⟨_, e⟩, fun _ _ ⟨D, q, r⟩ k => ⟨D, k _ q, r⟩⟩
section
variable {X : Cx}
def zSet (P : Program) (w : World) : List V → Hp → VK → Prop := fun xs H Q => match xs with
 | [.str ⟨⟨z⟩⟩] => z.length ≤ 1000 ∧ ∀ p l, H p = none → l.Nodup → (∀ x, x ∈ l ↔ ∃ c ∈ z, x = S [c]) → l.length ≤ z.length → Q (.ref p) (upd H p (TxS P w p l))
 | _ => False
theorem Yd9 (hc : X.calm = true) : CallR X (.type "set") (zSet X.prog X.w) := by
 intro pins s σ H xs us Q I r h
 match xs, h with
 | [.str ⟨⟨z⟩⟩], ⟨hz, q⟩ =>
  obtain ⟨u, rfl, t, rfl⟩ := vals1 r
  refine Zui (I.ok.hd hc) (by unfold scanBound; omega) fun h' tk D l e T nd m hl k => ?_
  exact ⟨.ref s.heap.objs.size, upd H s.heap.objs.size (TxS X.prog X.w s.heap.objs.size l), I.laid (t' := tk) k (Qu _) (Ya1 e T), rfl, q _ l (I.hok.fresh (Qu _)) nd m hl⟩
def Zr9 (P : Program) (w : World) (K : PySem.W.Frag) : List V → Hp → VK → Prop := fun xs H Q => zLen K xs H Q ∨ ∃ p l, xs = [.ref p] ∧ H p = some (TxS P w p l) ∧ l.length ≤ 1000 ∧ Q (.int l.length) H
theorem Zrv : CallR X (.builtin "len") (Zr9 X.prog X.w X.K) := by
 intro pins s σ H xs us Q I r h
 rcases h with h | ⟨p, l, rfl, hp, hl, q⟩
 ·exact Yea pins s σ H xs us Q I r h
 ·obtain ⟨u, rfl, rfl⟩ := vals1 r
  obtain ⟨⟨D, e, T⟩, _⟩ := I.hok p _ hp
  refine call_len_set e ⟨rfl, rfl, rfl⟩ rfl T.ok.fit (by rw [T.ok.sz]; omega) ⟨.int l.length, H, I.tok _, ⟨_, by rw [T.ok.sz]⟩, q⟩
def Zhf (P : Program) (w : World) (K : PySem.W.Frag) : List V → Hp → VK → Prop := fun xs H Q => Zzd K xs H Q ∨ ∃ a l, xs = [.ref a] ∧ H a = some (TxS P w a l) ∧ l.length < 64 ∧ l.Nodup ∧
 ∀ (zs : List Str) (p : Addr), zs.Perm l → sortedS zs = true → H p = none → Q (.ref p) (upd H p (.lst (zs.map V.str)))
theorem TxR.vals {P : Program} {w : World} {D : SD} {l : List Str} (T : TxR P w D l) (nd : l.Nodup) : ∃ ks : List Str, ks.Perm l ∧ StrsAre (D.1.toList.map (·.2)) ks := by
 have key : ∀ es : List (Int × Value), ElemsOf (strKind P w) es → ∃ ks : List Str, StrsAre (es.map (·.2)) ks ∧ ∀ k, k ∈ ks ↔ ∃ e ∈ es, (strKind P w).is k e.2 = true := by
  intro es
  induction es with
  | nil => exact fun _ => ⟨[], .nil, fun k => by simp⟩
  | cons e es ih =>
   intro h
   obtain ⟨ks, h1, h2⟩ := ih h.tail
   obtain ⟨⟨k, hk, _⟩, _⟩ := h.head
   obtain ⟨t, ht⟩ := Value.isStrOf_shape (x := k) (v := e.2) hk
   refine ⟨k :: ks, by rw [Q3, ht]; exact .cons k t h1, fun x => ?_⟩
   rw [Qg, h2 x]
   constructor
   ·rintro (rfl | ⟨e', he', q⟩)
    ·exact ⟨e, Qo, hk⟩
    ·exact ⟨e', Qk _ he', q⟩
   ·rintro ⟨e', he', q⟩
    rcases Qg.mp he' with rfl | he'
    ·refine Or.inl ?_
     rw [ht] at q
     obtain ⟨t', q'⟩ := Value.isStrOf_shape (x := x) (v := .str k t) q
     cases q'
     rfl
    ·exact Or.inr ⟨e', he', q⟩
 obtain ⟨ks, h1, h2⟩ := key D.1.toList T.ok.el
 refine ⟨ks, ?_, h1⟩
 have hlen : ks.length = l.length := by
  rw [← StrsAre.len_eq h1, Qb, Ge]
  exact T.ok.sz
 have sub : ∀ x, x ∈ l → x ∈ ks := fun x hx => (h2 x).mpr ((T.ok.mem x).mp hx)
 exact Zvl nd sub (by omega)
theorem Zy1 (hc : X.calm = true) : CallR X (.builtin "sorted") (Zhf X.prog X.w X.K) := by
 intro pins s σ H xs us Q I r h
 rcases h with h | ⟨a, l, rfl, ha, h64, nd, q⟩
 ·exact Z2w hc pins s σ H xs us Q I r h
 ·obtain ⟨u, rfl, rfl⟩ := vals1 r
  obtain ⟨⟨D, e, T⟩, _⟩ := I.hok a _ ha
  obtain ⟨ks, pk, hks⟩ := T.vals nd
  have hsz : D.1.size = l.length := T.ok.sz
  refine Calls.call_function_entry PyProof.Rows.kind_sorted PyProof.Rows.plain_sorted PyProof.Rows.entry_sorted (PyProof.Rows.args_sorted1 _) ?_
  unfold Builtin.«sorted»
  refine wpAny_bind (m := checkCount "sorted" 1 1 _) (wpAny_pure ?_)
  refine wpAny_bind (collect_set (A := X.A.in1) (I.ok.hd hc) ⟨_, e, rfl, rfl⟩ T.ok.fit (by rw [hsz]; unfold scanBound; omega) T.ris T.led fun s1 vs hk hz hg ho pm => ?_)
  have hvl : vs.length = l.length := by rw [pm.length_eq, Qb, Ge, hsz]
  obtain ⟨us, pu, hS⟩ : ∃ us : List Str, us.Perm l ∧ StrsAre vs us := by
   have key : ∀ {a b : List Value}, a.Perm b → ∀ {ks : List Str}, StrsAre b ks → ∃ us, us.Perm ks ∧ StrsAre a us := by
    intro a b p
    induction p with
    | nil => exact fun h => ⟨_, Lp _, h⟩
    | cons x p ih =>
     intro ks h
     cases h with
     | cons y t h =>
      obtain ⟨us, p1, p2⟩ := ih h
      exact ⟨y :: us, p1.cons y, .cons y t p2⟩
    | swap x y l =>
     intro ks h
     cases h with
     | cons x1 t1 h =>
      cases h with
      | cons x2 t2 h => exact ⟨_, List.Perm.swap _ _ _, .cons x2 t2 (.cons x1 t1 h)⟩
    | trans p q ih1 ih2 =>
     intro ks h
     obtain ⟨us, p1, p2⟩ := ih2 h
     obtain ⟨vs, q1, q2⟩ := ih1 p2
     exact ⟨vs, q1.trans p1, q2⟩
   obtain ⟨us, p1, p2⟩ := key pm hks
   exact ⟨us, p1.trans pk, p2⟩
  obtain ⟨hp, g1, d1, tk, o1⟩ := s1
  have eg : g1 = s.gens := hg
  have eo : o1 = s.os := ho
  subst eg eo
  have I1 : Inv X pins σ H { s with heap := hp, gens := s.gens, drawn := d1, toks := tk } := I.call (ch := []) (Un.kept hk) (I.hok.kept hk) I.bare (fun _ z => nomatch z)
  refine wpAny_bind (wpAny_newList ?_ (by rw [hvl, sizeLine_eq]; omega))
  have hoL : (hp.push (seqObj "list" vs.toArray 0)).get? hp.objs.size = some (seqObj "list" vs.toArray 0) := Heap.get?_push_size _ rfl
  refine wpAny_bind (wpAny_holding (wpAny_call_entry PyProof.Rows.slot_list_sort ⟨_, hoL, rfl⟩ PyProof.Rows.entry_list_sort (list_sort_treeK strKind_oneLt (s := { s with heap := hp.push (seqObj "list" vs.toArray 0), drawn := d1, toks := tk }) hoL hS.keysOf
   (fun v₁ v₂ rest e => keyKind_strs (by rw [← e]; exact hS)) (by rw [hvl]; exact h64) fun st' hpm hs => ⟨_, rfl, ?_⟩) (PyProof.Rows.args_list_sort _)))
  obtain ⟨zs, k1, k2, k3⟩ := sorted_out_str hS hpm hs
  obtain ⟨e', he'⟩ := PyProof.Rows.sortedHeap_at (vs := vs) (out := (arrOf st').map (·.2)) hoL
  have hlen : (zs.map V.str).length ≤ sizeLine := by
   rw [Qb, k2.length_eq, pu.length_eq, sizeLine_eq]
   omega
  refine wpAny_pure ⟨_, rfl, .ref hp.objs.size, upd H hp.objs.size (.lst (zs.map V.str)), I1.laid (t' := tk) (fun b u e => ?_) (Qu _)
   (show ObjOk X.prog X.w _ _ _ (.lst (zs.map V.str)) from ⟨hlen, ((arrOf st').map (·.2)).toList, e', vals_of_strs k1, by rw [Lf]; exact he'⟩), rfl, q zs _ (k2.trans pu) k3 (I1.hok.fresh (Qu _))⟩
  have hb : b < hp.objs.size := Heap.lt_size e
  rw [PyProof.Rows.sortedHeap_old (Gy hb) (by rw [size_push']; exact Nat.lt_succ_of_lt hb)]
  exact Heap.get?_push_of_some _ e
end
end Cl
namespace Cl
open PySem PySem.Spec PyProof.Rows L2 He
section
variable {X : Cx}
def zIn (K : PySem.W.Frag) : R2 := fun x y H Q => match y with
 | .ref p => ∃ xs, (SqL K H p xs ∨ SqT K H p xs) ∧ flatV x = true ∧ xs.all flatV = true ∧ Q (.bl (inV x xs)) H
 | .str ⟨⟨z⟩⟩ => (match x with
  | .str ⟨⟨[c]⟩⟩ => Q (.bl (decide (c ∈ z))) H
  | _ => False)
 | _ => False
def Zr7 (K : PySem.W.Frag) : R2 := fun x y H Q => match y with
 | .ref p => ∃ xs, (SqL K H p xs ∨ SqT K H p xs) ∧ flatV x = true ∧ xs.all flatV = true ∧ Q (.bl (!inV x xs)) H
 | .str ⟨⟨z⟩⟩ => (match x with
  | .str ⟨⟨[c]⟩⟩ => Q (.bl (!decide (c ∈ z))) H
  | _ => False)
 | _ => False
theorem Yft (hu : X.A.units + 64 < cLine) : OpR X (compareOp .In) (zIn X.K) := by
 intro pins s σ H x y v u Q I rx ry h
 match y, h with
 | .ref p, ⟨xs, h1, h2, h3, q⟩ => exact op_in_seq pins s σ H _ _ v u Q I rx ry ⟨p, xs, rfl, h1, h2, h3, q⟩
 | .str ⟨⟨z⟩⟩, h =>
  match x, h with
  | .str ⟨⟨[c]⟩⟩, h => exact op_in_sign pins s σ H _ _ v u Q I rx ry ⟨c, S z, rfl, rfl, h⟩
theorem Z4i (hu : X.A.units + 64 < cLine) : OpR X (compareOp .NotIn) (Zr7 X.K) := by
 intro pins s σ H x y v u Q I rx ry h
 match y, h with
 | .ref p, ⟨xs, h1, h2, h3, q⟩ => exact op_notIn_seq pins s σ H _ _ v u Q I rx ry ⟨p, xs, rfl, h1, h2, h3, q⟩
 | .str ⟨⟨z⟩⟩, h =>
  match x, h with
  | .str ⟨⟨[c]⟩⟩, h => exact op_notIn_sign pins s σ H _ _ v u Q I rx ry ⟨c, S z, rfl, rfl, h⟩
def glue (a : List Nat) : List (List Nat) → List Nat
 | [] => []
 | [x] => x
 | x :: y :: r => x ++ (a ++ glue a (y :: r))
theorem Z48 (a : List Nat) (ys : List (List Nat)) : Txt.join (S a) (ys.map S) = S (glue a ys) := by
 have key : ∀ (r : List (List Nat)) (x : List Nat), StrLaws.glueT a ((x :: r).map S) = glue a (x :: r) := by
  intro r
  induction r with
  | nil =>
   intro x
   show x ++ [] = x
   rw [Qx]
  | cons y r ih =>
   intro x
   show x ++ StrLaws.glueL a ((y :: r).map S) = x ++ (a ++ glue a (y :: r))
   rw [← ih y]
   rfl
 cases ys with
 | nil => rfl
 | cons x r =>
  have e := StrLaws.glued_list (S a) (S x) (r.map S)
  have k := key r x
  have z : Txt.join (S a) ((x :: r).map S) = ⟨(Txt.join (S a) ((x :: r).map S)).cps⟩ := rfl
  rw [z]
  congr 1
  apply Array.ext'
  exact e.trans k
theorem Zlh : ∀ ys : List (List Nat), glue [] ys = ys.flatten
 | [] => rfl
 | [x] => by show x = x ++ []; rw [Qx]
 | x :: y :: r => by
  show x ++ ([] ++ glue [] (y :: r)) = x ++ (y :: r).flatten
  rw [Zlh (y :: r)]
  rfl
def Z3s (K : PySem.W.Frag) : V → List V → Hp → VK → Prop := fun x xs H Q => match x, xs with
 | .str ⟨⟨a⟩⟩, [.ref p] => ∃ ys : List (List Nat), (SqL K H p (ys.map sv) ∨ SqT K H p (ys.map sv)) ∧ (ys.map List.length).sum + ys.length * a.length ≤ 16777216 ∧ Q (sv (glue a ys)) H
 | _, _ => False
theorem Z89 : MtR X "str.join" (Z3s X.K) := by
 intro pins s σ H x xs v us Q I rx rv h
 match x, xs, h with
 | .str ⟨⟨a⟩⟩, [.ref p], ⟨ys, h1, h2, q⟩ =>
  refine mt_join pins s σ H _ _ v us Q I rx rv ⟨S a, p, ys.map S, rfl, rfl, ?_, ?_, ?_⟩
  ·rw [Qq]
   exact h1
  ·rw [Qq, Qb]
   exact h2
  ·rw [Z48]
   exact q
def zPop : V → List V → Hp → VK → Prop := fun x vs H Q => match x, vs with
 | .ref l, [.int i] => ∃ (xs : List V) (y : V), H l = some (.lst xs) ∧ 0 ≤ i ∧ i < xs.length ∧ xs.length ≤ sizeLine ∧ xs[i.toNat]? = some y ∧ Q y (upd H l (.lst (xs.eraseIdx i.toNat)))
 | _, _ => False
theorem Yci : MtR X "list.pop" zPop := by
 intro pins s σ H x vs v us Q I rx rv h
 match x, vs, h with
 | .ref l, [.int i], ⟨xs, y, h1, h2, h3, h5, h4, q⟩ =>
  have hz := sizeLine_eq
  obtain ⟨hs, _⟩ := ixN_seq (n := xs.length) (i := i) (j := i.toNat) (by unfold ixN; rw [if_pos h2, if_pos h3])
  exact mt_popAt pins s σ H _ _ v us Q I rx rv ⟨l, xs, i, i.toNat, y, rfl, rfl, h1, by omega, by omega, hs, h4, q⟩
def Yeu (te : TE) : TE := fun σ H Q => te σ H fun x H1 => ∃ z, x = sv z ∧ z.length ≤ sizeLine ∧ Q (sv z.reverse) H1
end
def srt (z : List Nat) : List Nat := z.mergeSort (fun a b => decide (a ≤ b))
theorem Zhm (z : List Nat) : (srt z).Perm z := List.mergeSort_perm _ _
theorem Zzx (z : List Nat) : (srt z).Pairwise (· ≤ ·) := by
 have h := List.pairwise_mergeSort (le := fun a b : Nat => decide (a ≤ b)) (fun a b c h1 h2 => by simp at *; omega) (fun a b => by simp; omega) z
 exact h.imp fun h => by simpa using h
theorem Zsr : ∀ {a b : List Nat}, a.Perm b → a.Pairwise (· ≤ ·) → b.Pairwise (· ≤ ·) → a = b
 | [], b, p, _, _ => (List.Perm.nil_eq p)
 | x :: a, [], p, _, _ => absurd p.length_eq (by simp)
 | x :: a, y :: b, p, ha, hb => by
  obtain ⟨h1, h2⟩ := Gh.mp ha
  obtain ⟨k1, k2⟩ := Gh.mp hb
  have e : x = y := by
   have m1 : x ∈ y :: b := p.mem_iff.mp Qo
   have m2 : y ∈ x :: a := p.mem_iff.mpr Qo
   rcases Qg.mp m1 with e | m1
   ·exact e
   ·rcases Qg.mp m2 with e | m2
    ·exact e.symm
    ·have := h1 y m2
     have := k1 x m1
     omega
  subst e
  rw [Zsr (List.Perm.cons_inv p) h2 k2]
theorem Zgw : ∀ (zs : List Nat) (c : Nat), risingS (S [c]) (zs.map fun c => S [c]) = true → (c :: zs).Pairwise (· ≤ ·)
 | [], c, _ => List.pairwise_singleton _ _
 | d :: zs, c, h => by
  obtain ⟨h1, h2⟩ : (!ltCps [d] [c]) = true ∧ risingS (S [d]) (zs.map fun c => S [c]) = true := by
   have : (!ltCps [d] [c] && risingS (S [d]) (zs.map fun c => S [c])) = true := h
   simpa using this
  have ih := Zgw zs d h2
  have hcd : c ≤ d := by
   have : ltCps [d] [c] = (decide (d < c) || (d == c && false)) := rfl
   rw [this] at h1
   simp at h1
   exact h1
  refine Gh.mpr ⟨fun x hx => ?_, ih⟩
  rcases Qg.mp hx with rfl | hx
  ·exact hcd
  ·exact Hb hcd ((Gh.mp ih).1 x hx)
theorem Ztk : ∀ {zs : List Str} {z : List Nat}, zs.Perm (z.map fun c => S [c]) → ∃ y : List Nat, zs = (y.map fun c => S [c]) ∧ y.Perm z := by
 intro zs z p
 have key : ∀ {a b : List Str}, a.Perm b → ∀ z : List Nat, b = (z.map fun c => S [c]) → ∃ y : List Nat, a = (y.map fun c => S [c]) ∧ y.Perm z := by
  intro a b p
  induction p with
  | nil => exact fun z e => ⟨z, e, Lp _⟩
  | cons x p ih =>
   intro z e
   cases z with
   | nil => cases e
   | cons c z =>
    obtain ⟨e1, e2⟩ := Hy e
    obtain ⟨y, h1, h2⟩ := ih z e2
    exact ⟨c :: y, by rw [h1, e1]; rfl, h2.cons c⟩
  | swap x y l =>
   intro z e
   match z, e with
   | c :: d :: z, e =>
    obtain ⟨e1, e2⟩ := Hy e
    obtain ⟨e3, e4⟩ := Hy e2
    exact ⟨d :: c :: z, by rw [e1, e3, e4]; rfl, List.Perm.swap _ _ _⟩
  | trans p q ih1 ih2 =>
   intro z e
   obtain ⟨y, h1, h2⟩ := ih2 z e
   obtain ⟨x, k1, k2⟩ := ih1 y h1
   exact ⟨x, k1, k2.trans h2⟩
 exact key p z rfl
theorem Zsq {zs : List Str} {z : List Nat} (p : zs.Perm (z.map fun c => S [c])) (h : sortedS zs = true) : zs.map V.str = sgs (srt z) := by
 obtain ⟨y, rfl, hy⟩ := Ztk p
 have hs : y.Pairwise (· ≤ ·) := by
  cases y with
  | nil => exact List.Pairwise.nil
  | cons c y => exact Zgw y c h
 have e : y = srt z := Zsr (hy.trans (Zhm z).symm) hs (Zzx z)
 rw [e, ← Z6p]
theorem Z5d (z : List Nat) : (z.map fun c => [c]).flatten = z := by
 induction z with
 | nil => rfl
 | cons c z ih =>
  show [c] ++ (z.map fun c => [c]).flatten = c :: z
  rw [ih]
  rfl
section
variable {X : Cx} {CX : CXT} {k : Nat} {f C : Addr} {fd : FuncData} {ps : List Str} {sp : Sp} {dvs : List V} {ds : List Value} {E : L2.St → XK} {x : Str} {p pos : Pos} {e : Expr} {es : List Expr} {t : TA}
def Ya5 (C : Addr) (sp : Sp) (dvs : List V) (E : L2.St → XK) (t : TA) : TE := fun σ H Q => t σ H fun vs H1 => ∀ x dx, H1 x = none → H1 dx = none → dx ≠ x →
 sp (.ref x :: (vs ++ dvs)) (upd (upd H1 dx (.own x)) x (.ins C dx [])) (fun v H2 => v = .non ∧ Q (.ref x) H2) (E σ)
end
end Cl
namespace Cl
open PySem PySem.Spec PyProof.Rows L2 He ClX
def Z7n (K : PySem.W.Frag) (C : Addr) : Bool := PySem.W.readsIn K C (.type "type") && decide (PySem.W.specialIn K (.ref C) "__getattribute__" = some (some (.builtin "type.__getattribute__")))
theorem Z2x {K : PySem.W.Frag} {C : Addr} (h : Z7n K C = true) : CRead K C (.type "type") := ⟨(ba h).1, of_decide_eq_true (ba h).2⟩
def Yae (K : PySem.W.Frag) (C : Addr) (f : Str) (v : V) : Bool := match PySem.W.findCls K (.ref C) (.type "type") f with
 | some (.val u) => relB v u
 | _ => false
theorem Z5q {K : PySem.W.Frag} {C : Addr} {f : Str} {v : V} (h : Yae K C f v = true) : ∃ u, CVal K C (.type "type") f v u := by
 unfold Yae at h
 split at h
 ·rename_i u e
  exact ⟨u, e, relB_ok h⟩
 ·cases h
theorem mkr_ok {K : PySem.W.Frag} {x : Str} (h : (Fa.mkr x).ok K = true) : Mk K (ga K x) (fAd K (x, some "__init__")) := by
 obtain ⟨h1, h⟩ := ba h
 obtain ⟨h2, h⟩ := ba h
 obtain ⟨h3, h4⟩ := ba h
 exact ⟨h1, eqO_ok h2, h3, h4⟩
theorem cls_ok {K : PySem.W.Frag} {x : Str} (h : (Fa.cls x).ok K = true) : Cls K (ga K x) := by
 obtain ⟨h1, h⟩ := ba h
 obtain ⟨h2, h⟩ := ba h
 obtain ⟨h3, h4⟩ := ba h
 exact ⟨h1, h2, h3, eqO_ok h4⟩
theorem meth_ok {K : PySem.W.Frag} {x m : Str} (h : (Fa.meth x m).ok K = true) : Meth K (ga K x) m (fAd K (x, some m)) := by
 obtain ⟨h1, h⟩ := ba h
 obtain ⟨h2, h3⟩ := ba h
 exact ⟨eqO_ok h1, h2, h3⟩
def Zem (E : XK) (C : Addr) (sp : Sp) (ta : TA) : TS := fun _ σ H => tMkO C sp [] ta σ H fun cls d H' => E cls d H'
theorem Z4b {E : XK} {C : Addr} {f : Str} {v : V} {D : Ends} {σ : L2.St} {H : Hp} (h : ∀ d, H d = none → E (.ref C) (some d) (upd H d (.xd [(f, v)]))) : Zem E C (spX1 C f) (tCons (tC v) tNil) D σ H := by
 refine ⟨by show 1 ≤ 1000; decide, fun a ha => ⟨a, v, rfl, upd_same, fun d hd ne => ⟨rfl, d, _, upd_same, by rw [upd_ne ne, upd_same], (Zie hd).1, ?_⟩⟩⟩
 obtain ⟨h1, _⟩ := Zie hd
 have e : upd (del (upd (upd (upd H a (exo a C none)) d (exd d [(f, v)])) a (exo a C (some d))) a) d (.xd [(f, v)]) = upd H d (.xd [(f, v)]) := by
  funext b
  by_cases hb : b = d
  ·rw [hb, upd_same, upd_same]
  ·rw [upd_ne hb, upd_ne hb]
   by_cases hc : b = a
   ·rw [hc, del_same, ha]
   ·rw [del_ne hc, upd_ne hc, upd_ne hb, upd_ne hc]
 show E (.ref C) (some d) _
 rw [e]
 exact h d h1
abbrev small : List Nat := [97, 98, 99, 100, 101, 102, 103, 104, 105, 106, 107, 108, 109, 110, 111, 112, 113, 114, 115, 116, 117, 118, 119, 120, 121, 122]
def okL (ls : List Nat) : Prop := (∀ c ∈ ls, c ∈ small) ∧ 1 ≤ ls.length ∧ ls.length ≤ 8 ∧ ls.Nodup
def okV (ls vw : List Nat) : Prop := (∀ c ∈ vw, c ∈ ls) ∧ vw.Nodup
theorem Ziu {z : List Nat} : (z.map fun c => S [c]).Nodup ↔ z.Nodup := by
 constructor
 ·intro h
  exact (Gm.mp h).imp fun h e => h (by rw [e])
 ·intro h
  exact Gm.mpr (h.imp fun h e => h (by simpa using e))
theorem Z1r {l : List Str} {z : List Nat} (nd : l.Nodup) (m : ∀ x, x ∈ l ↔ ∃ c ∈ z, x = S [c]) : l.length = z.length ↔ z.Nodup := by
 have s1 : ∀ x, x ∈ l → x ∈ z.map fun c => S [c] := fun x hx => by
  obtain ⟨c, hc, e⟩ := (m x).mp hx
  exact Qz.mpr ⟨c, hc, e.symm⟩
 have s2 : ∀ x, x ∈ (z.map fun c => S [c]) → x ∈ l := fun x hx => by
  obtain ⟨c, hc, e⟩ := Qz.mp hx
  exact (m x).mpr ⟨c, hc, e.symm⟩
 constructor
 ·intro h
  have p := Zvl nd s1 (by rw [Qb]; omega)
  exact Ziu.mp (p.nodup_iff.mpr nd)
 ·intro h
  have h1 := Zh2 nd s1
  have h2 := Zh2 (Ziu.mpr h) s2
  rw [Qb] at h1 h2
  omega
theorem Zvp {l : List Str} {z : List Nat} (nd : l.Nodup) (m : ∀ x, x ∈ l ↔ ∃ c ∈ z, x = S [c]) : decide ((l.length : Int) = (z.length : Int)) = decide z.Nodup := by
 rw [Q7, decide_eq_true_iff, decide_eq_true_iff, ← Z1r nd m]
 omega
def But (D : Addr) (H H' : Hp) : Prop := ∀ a o, a ≠ D → H a = some o → H' a = some o
theorem But.refl (D : Addr) (H : Hp) : But D H H := fun _ _ _ e => e
theorem But.same {D : Addr} {H H' : Hp} (b : But D H H') (hD : H D = none) : Same H H' := fun a o e => b a o (ne_of_none e hD) e
theorem But.trans {D : Addr} {H H1 H2 : Hp} (a : But D H H1) (b : But D H1 H2) : But D H H2 := fun x o hx e => b x o hx (a x o hx e)
theorem Zfa (z : List Nat) : (srt z).length = z.length := (Zhm z).length_eq
theorem Z9c {z : List Nat} {c : Nat} : c ∈ srt z ↔ c ∈ z := (Zhm z).mem_iff
theorem Z57 {z : List Nat} (h : z.Nodup) : (srt z).Pairwise (· < ·) := by
 have h1 := Zzx z
 have h2 : (srt z).Pairwise (· ≠ ·) := (Zhm z).nodup_iff.mpr h
 exact (h1.and h2).imp fun h => by omega
def Yg2 (l v c s : List Nat) : List (Str × V) := putF "signs" (sv s) (putF "consonants" (sv c) (putF "vowels" (sv v) (putF "letters" (sv l) [])))
def cons (l v : List Nat) : List Nat := l.filter fun c => !decide (c ∈ v)
section
variable {K : PySem.W.Frag} {P : Program} {w : World} {H : Hp} {Q : VK} {QB : Bool → Hp → Prop} {σ : L2.St} {ta tb tc te tv : TE} {D : Ends} {f : Str} {c : Nat} {z : List Nat} {r r' : R2}
theorem s_in (h : Q (.bl (decide (c ∈ z))) H) : zIn K (sv [c]) (sv z) H Q := h
theorem Z8q (h : Q (.bl (!decide (c ∈ z))) H) : Zr7 K (sv [c]) (sv z) H Q := h
theorem Z8t (h : ta σ H fun x H1 => tb σ H1 fun y H2 => r x y H2 fun z H3 => ∃ k, z = .bl k ∧ (if k = true then tc σ H3 fun w' H4 => r' y w' H4 Q else Q (.bl false) H3)) : tChain r r' ta tb tc σ H Q := h
theorem Ybe (h : tv σ H fun y H1 => ta σ H1 fun x H2 => ∃ a C dx fs, x = .ref a ∧ H2 a = some (.ins C dx fs) ∧ Cls K C ∧ NoAttr K C f ∧ fs.length < 1000 ∧ D.nx σ (upd H2 a (.ins C dx (putF f y fs)))) : sFld K ta tv f D σ H := h
theorem Yfg (h : te σ H fun x H1 => ∃ a C dx fs v, x = .ref a ∧ H1 a = some (.ins C dx fs) ∧ Cls K C ∧ NoAttr K C f ∧ fs.lookup f = some v ∧ Q v H1) : tFld K te f σ H Q := h
theorem Ybu (h : te σ H fun x H1 => ∃ C mc v u, x = .ref C ∧ CRead K C mc ∧ CVal K C mc f v u ∧ Q v H1) : tCVal K te f σ H Q := h
theorem Ybb {b : Bool} {QP : Bool → Prop} (q : QP b) : ∃ k, TruV K (.bl b) H k ∧ QP k := ⟨b, rfl, q⟩
theorem Ybw (h : ta σ H fun x H1 => ∃ c, x = .bl c ∧ if c = true then tb σ H1 Q else Q (.bl false) H1) : tAndV ta tb σ H Q := h
theorem Ye5 (h : ta σ H fun x H1 => ∃ c, x = .bl c ∧ if c = true then Q (.bl true) H1 else tb σ H1 Q) : tOrV ta tb σ H Q := h
theorem Ybj (h : ta σ H fun x H1 => ∃ c, x = .bl c ∧ Q (.bl (!c)) H1) : tNotV ta σ H Q := h
theorem Z0w (h : Q (.bl false) H) : Zop .non .non H Q := by
 show Q (.bl (!decide (V.non = V.non))) H
 rw [decide_eq_true rfl]
 exact h
theorem Ybp (h : Q (.bl true) H) : zIs .non .non H Q := by
 show Q (.bl (decide (V.non = V.non))) H
 rw [decide_eq_true rfl]
 exact h
theorem Ybq {a b : Bool} (h : Q (.bl (decide (a = b))) H) : zIs (.bl a) (.bl b) H Q := h
theorem Z0x {a b : Bool} (h : Q (.bl (!decide (a = b))) H) : Zop (.bl a) (.bl b) H Q := h
theorem Ybf {te : TE} (h : te σ H fun x H1 => ∃ z, x = sv z ∧ z.length ≤ sizeLine ∧ Q (sv z.reverse) H1) : Yeu te σ H Q := h
end
theorem Zm7 {α β : Type} (f : α → β) : ∀ (l : List α) (i : Nat), (l.map f).eraseIdx i = (l.eraseIdx i).map f
 | [], _ => by simp
 | x :: l, 0 => by simp
 | x :: l, i + 1 => by
  simp only [Q3, List.eraseIdx_cons_succ]
  rw [Zm7 f l i]
theorem Z8r {C : Addr} {sp : Sp} {dvs : List V} {E : L2.St → XK} {t : TA} {σ : L2.St} {H : Hp} {Q : VK} (h : t σ H fun vs H1 => ∀ x dx, H1 x = none → H1 dx = none → dx ≠ x → sp (.ref x :: (vs ++ dvs)) (upd (upd H1 dx (.own x)) x (.ins C dx [])) (fun v H2 => v = .non ∧ Q (.ref x) H2) (E σ)) : Ya5 C sp dvs E t σ H Q := h
theorem Ybn {C : Addr} {sp : Sp} {dvs : List V} {E : XK} {t : TA} {σ : L2.St} {H : Hp} {Q : VK} (h : t σ H fun vs H1 => ∀ x dx, H1 x = none → H1 dx = none → dx ≠ x → sp (.ref x :: (vs ++ dvs)) (upd (upd H1 dx (.own x)) x (.ins C dx [])) (fun v H2 => v = .non ∧ Q (.ref x) H2) E) : tMake C sp dvs E t σ H Q := h
theorem Zun {α : Type} {xs : List α} {z : Int} {j : Nat} {v : α} (e : z = (j : Int)) (h : xs[j]? = some v) : atI xs z = some v := by
 rw [e]
 exact atI_nat h
theorem Yec (z : List Nat) (a b : Nat) : cut z (some (a : Int)) (some (b : Int)) = (z.drop (min a z.length)).take (min b z.length - min a z.length) := by
 unfold cut
 rw [HT.sIx_nat, HT.sIx_nat]
theorem Yaf {α : Type} (z : List α) (lo hi : Option Int) : (cut z lo hi).Sublist z := (Lw _ _).trans (List.drop_sublist _ _)
theorem Zh1 {l : List Nat} (h : l.Pairwise (· < ·)) : l.Nodup := h.imp fun h => Gy h
abbrev txL : List Nat := [108, 101, 116, 116, 101, 114, 115]
abbrev txV : List Nat := [118, 111, 119, 101, 108, 115]
section
variable {X : Cx}
def zNeg : V → Hp → VK → Prop := fun x H Q => match x with
 | .int i => Q (.int (-i)) H
 | _ => False
theorem Yb7 : UnR X (unaryOp .USub) zNeg := by
 intro pins s σ H x v Q I rx h
 cases x with
 | int i => exact un_neg pins s σ H _ v Q I rx ⟨i, rfl, h⟩
 | _ => exact (show False from h).elim
def Z3t (K : PySem.W.Frag) : List V → Hp → VK → Prop := fun xs H Q => match xs with
 | [.bl k] => Q (.bl k) H
 | _ => False
theorem Yad : CallR X (.type "bool") (Z3t X.K) := by
 intro pins s σ H xs us Q I r h
 match xs, h with
 | [.bl k], h => exact call_bool1 pins s σ H _ us Q I r (Or.inr ⟨k, rfl, h⟩)
def rEqI (C : Addr) (sp : Sp) (E : XK) : R2 := fun x y H Q => ∃ a b dx dy fs gs, x = .ref a ∧ y = .ref b ∧ H a = some (.ins C dx fs) ∧ H b = some (.ins C dy gs) ∧ sp [.ref a, .ref b] H (fun v H' => ∃ k, v = .bl k ∧ Q (.bl k) H') E
theorem Ycc {n : Nat} {CX : CXT} {C f : Addr} {fd : FuncData} {ps : List Str} {sp : Sp} {E : XK} (F : FnOk X.prog X.w X.K X.mg X.base CX n f fd ps sp) (hr : Room n X.A)
  (hm : Meth X.K C "__eq__" f) (hb : Binds X.K fd ps []) (hx : Passes CX X E) : OpR X (compareOp .Eq) (rEqI C sp E) := by
 intro pins s σ H x y v u Q I rx ry h
 obtain ⟨a, b, dx, dy, fs, gs, rfl, rfl, ha, hb', hsp⟩ := h
 cases rx
 cases ry
 obtain ⟨mA, J, _⟩ := ins_get I.hok ha
 obtain ⟨mB, J', _⟩ := ins_get I.hok hb'
 obtain ⟨od, J, _⟩ := J.look
 obtain ⟨od', J', _⟩ := J'.look
 obtain ⟨m, hF⟩ := I.fr
 show wpAny (model X.prog X.w) X.A (richCompare .Eq (.ref a) (.ref b)) (EP X pins σ Q) X.xe s
 refine PySem.W.cmp_K (op := .Eq) (tb := .ref C) hr.units0 hF I.ok.mod.kin J J'.type (by simp [PySem.W.notFirst]) hm.at_ hm.fn ?_
 refine wpAny_mono (run_fn (ds := []) (dvs := []) (us := [.ref a, .ref b]) (vs := [.ref a, .ref b]) F hr hb .nil hx I (.cons rfl (.cons rfl .nil)) hsp) (fun r s' q => ?_) fun _ _ x => x
 obtain ⟨z, H', I', rz, k, rfl, q⟩ := q
 cases rz
 exact ⟨.bl k, H', I', rfl, q⟩
end
section
variable {K : PySem.W.Frag} {P : Program} {w : World} {H : Hp} {Q : VK} {σ : L2.St} {ta tb te td ty tx : TE} {t : TA} {D : Ends} {C : Addr} {f m : Str}
theorem Ye8 {i : Int} (h : Q (.int (-i)) H) : zNeg (.int i) H Q := h
theorem s_un {r : V → Hp → VK → Prop} (h : ta σ H fun x H1 => r x H1 Q) : tUn r ta σ H Q := h
theorem s_bool {k : Bool} (h : Q (.bl k) H) : Z3t K [.bl k] H Q := h
theorem Ybm {sp : Sp} {dvs : List V} {E : XK} (h : ta σ H fun x H1 => ∃ a dx fs, x = .ref a ∧ H1 a = some (.ins C dx fs) ∧ fs.lookup m = none ∧ t σ H1 fun vs H2 => sp (x :: (vs ++ dvs)) H2 Q E) : tMeth C m sp dvs E ta t σ H Q := h
theorem Yfh (h : ta σ H fun x H1 => ∃ a C dx fs v u, x = .ref a ∧ H1 a = some (.ins C dx fs) ∧ Cls K C ∧ Con K C f v u ∧ fs.lookup f = none ∧ Q v H1) : tCon K ta f σ H Q := h
theorem Ybt {trs : List (TE × TE)} (h : ∀ p, H p = none → tPairs trs σ (upd H p (.dK [])) fun ps H2 => H2 p = some (.dK []) ∧ ∃ kvs : List (Key × V), ps = kvs.map (fun kv => (kV kv.1, kv.2)) ∧ kvs.length ≤ 15 ∧ Q (.ref p) (upd H2 p (.dK (mergeK [] kvs)))) : tDisp trs σ H Q := h
theorem Ybi {trs : List (TE × TE)} {QP : List (V × V) → Hp → Prop} (h : ta σ H fun x H1 => tb σ H1 fun y H2 => tPairs trs σ H2 fun ps H3 => QP ((x, y) :: ps) H3) : tPairs ((ta, tb) :: trs) σ H QP := h
theorem Ybg {QP : List (V × V) → Hp → Prop} (h : QP [] H) : tPairs [] σ H QP := h
theorem Z8s (h : td σ H fun x H1 => ∃ a, x = .ref a ∧ IsD H1 a ∧ ty σ H1 fun y H2 => tx σ H2 fun z H3 => ∃ o, DGet H3 a y o ∧ Q (o.getD z) H3) : tDGet2 td ty tx σ H Q := h
end
structure ICls (K : PySem.W.Frag) (C : Addr) : Prop where
 ha : PySem.W.findIn K (.ref C) "__class__" = some (some (.builtin "object.__class__"))
 hn : PySem.W.specialIn K (.builtin "object.__class__") "__get__" = some (some (.builtin "getset_descriptor.__get__"))
 htk : PySem.W.takesIn K (.builtin "object.__class__") = some true
 hm : PySem.W.mroIn K C (.type "object") = some true
def Yds (K : PySem.W.Frag) (C : Addr) : Bool := decide (PySem.W.findIn K (.ref C) "__class__" = some (some (.builtin "object.__class__"))) && (decide (PySem.W.specialIn K (.builtin "object.__class__") "__get__" = some (some (.builtin "getset_descriptor.__get__"))) && (decide (PySem.W.takesIn K (.builtin "object.__class__") = some true) && decide (PySem.W.mroIn K C (.type "object") = some true)))
theorem Z5a {K : PySem.W.Frag} {C : Addr} (h : Yds K C = true) : ICls K C := by
 obtain ⟨h1, h⟩ := ba h
 obtain ⟨h2, h⟩ := ba h
 obtain ⟨h3, h4⟩ := ba h
 exact ⟨of_decide_eq_true h1, of_decide_eq_true h2, of_decide_eq_true h3, of_decide_eq_true h4⟩
theorem Ybo {K : PySem.W.Frag} {a C dx : Addr} {fs : List (Str × V)} {c : V} {u : Value} {b : Bool} {H : Hp} {Q : VK} (e : H a = some (.ins C dx fs)) (cl : Cls K C) (i : ICls K C) (k : ClsV c u) (hk : PySem.W.kitOne K (.ref C) u = some b) (q : Q (.bl b) H) : zIsi K [.ref a, c] H Q :=
 Or.inr ⟨_, _, _, _, b, rfl, k, .base (.ins e cl i.ha i.hn i.htk i.hm), hk, q⟩
def Al (K : PySem.W.Frag) (H : Hp) (p : Addr) (ls vw : List Nat) : Prop := ∃ dx, H p = some (.ins (ga K "Alphabet") dx (Yg2 ls vw (cons ls vw) (45 :: ls)))
theorem Al.same {K : PySem.W.Frag} {H H' : Hp} {p : Addr} {ls vw : List Nat} (a : Al K H p ls vw) (s : Same H H') : Al K H' p ls vw := let ⟨dx, e⟩ := a; ⟨dx, s _ _ e⟩
theorem Ya7 {l m : List Nat} (p : l.Perm m) (h : m.Pairwise (· < ·)) : srt l = m :=
 Lz (fun a b _ _ h1 h2 => Nat.le_antisymm h1 h2) (Zzx l) (h.imp fun h => Tn h) ((Zhm l).trans p)
abbrev txA : List Nat := [97, 108, 108]
abbrev txC : List Nat := [99, 111, 110, 115, 111, 110, 97, 110, 116, 115]
abbrev txJ : List Nat := [106, 111, 105, 110, 116, 115]
abbrev txS : List Nat := [115, 101, 116]
def inner (z : List Nat) : List Nat := cut z (some 1) (some (-1))
def isW (ls z : List Nat) : Bool := z.all fun c => decide (c ∈ 45 :: ls)
def okS (ls z : List Nat) : Prop := 3 ≤ z.length ∧ atI z 0 = some 91 ∧ atI z (-1) = some 93 ∧ isW ls (inner z) = true ∧ (inner z).Pairwise (· < ·)
def okN (ls z : List Nat) : Prop := z = txA ∨ z = txL ∨ z = txV ∨ z = txC ∨ z = txJ ∨ okS ls z
def mem (ls vw z : List Nat) : List Nat := if z = txA then 45 :: ls else if z = txL then ls else if z = txV then vw else if z = txC then cons ls vw else if z = txJ then [45] else inner z
def Zgm (K : PySem.W.Frag) : Sp := fun vs H Q _ => ∃ (a b : Addr) (ls vw ls' vw' : List Nat), vs = [.ref a, .ref b] ∧ Al K H a ls vw ∧ Al K H b ls' vw' ∧ Q (.bl (decide (ls = ls') && decide (vw = vw'))) H
structure Zb5 (N P : List Str) (sc : Scope) : Prop where
 kind : sc.kind = .function
 co : sc.isCoroutine = false
 gen : sc.isGenerator = false
 nd : N.Nodup
 pre : N.take P.length = P
 par : ∀ x ∈ P, sc.names.lookup x = some .local
 nocell : ∀ y ∈ sc.names, y.2 ≠ .cell
 free : ∀ y ∈ sc.names, y.2 = .free → y.1 = "__class__"
def cxS (CX : CXT) (P : Program) (w : World) (K : PySem.W.Frag) (mg : Str → Option Value) (base : Heap) (N : List Str) (qual : Str) (scope : Scope) (f : Addr) (cd : Value) (cc : Addr) (A : Around) (outer : List Env) (s : Shared) (H : Hp) (E : XK) : Cx where
 prog := P
 w := w
 K := K
 mg := mg
 base := base
 A := A.deeper (PySem.W.ksEnv qual scope s.heap.objs.size f cd cc)
 N := N
 s_0 := s
 H_0 := H
 env := PySem.W.ksEnv qual scope s.heap.objs.size f cd cc
 outer := outer
 stack := PySem.W.ksEnv qual scope s.heap.objs.size f cd cc :: outer
 ex := []
 calm := true
 fn := fun y => !decide (y = ("__class__" : Str))
 pn := []
 xe := fun e s' => wpAny (model P w) (A.deeper (PySem.W.ksEnv qual scope s.heap.objs.size f cd cc)) (leaving (PySem.W.ksEnv qual scope s.heap.objs.size f cd cc) e) (fun _ s'' => CX outer H s E e s'') (fun e' s'' => CX outer H s E e' s'') s'
theorem Zqz {k : Str} : ∀ {l r : List (Str × Value)}, (l ++ r).lookup k = match l.lookup k with | some v => some v | none => r.lookup k
 | [], r => rfl
 | (a, v) :: l, r => by
  rw [List.cons_append, Hj, Hj]
  cases h : (k == a) with
  | true => rfl
  | false => exact Zqz (l := l)
theorem Ztn {k : Str} : ∀ {l : List (Str × Value)}, (∀ v, (k, v) ∉ l) → l.lookup k = none
 | [], _ => rfl
 | (a, v) :: l, h => by
  rw [Hj]
  cases q : (k == a) with
  | true => exact absurd (by rw [eq_of_beq q]; exact Qo) (h v)
  | false => exact Ztn fun u hu => h u (Qk _ hu)
theorem Z02 {x : Str} {u : Value} : ∀ {P : List Str} {us : List Value} {i : Nat}, P.Nodup → P[i]? = some x → us[i]? = some u → (P.zip us).reverse.lookup x = some u
 | [], _, _, _, h, _ => by simp at h
 | _ :: _, [], _, _, _, h => by simp at h
 | p :: P, v :: us, 0, nd, h1, h2 => by
  simp at h1 h2
  subst h1
  subst h2
  rw [Gz, G6, Zqz, Ztn fun w hw => (Hf.mp nd).1 (List.of_mem_zip (List.mem_reverse.mp hw)).1]
  rw [Hj, beq_self_eq_true]
 | p :: P, v :: us, i + 1, nd, h1, h2 => by
  rw [Gz, G6, Zqz, Z02 (i := i) (Hf.mp nd).2 (by simpa using h1) (by simpa using h2)]
theorem Zij {cc c : Addr} {y : Str} (h : ([(("__class__" : Str), cc)]).lookup y = some c) : y = "__class__" ∧ c = cc := by
 rw [Hj] at h
 cases q : (y == ("__class__" : Str)) with
 | true =>
  rw [q] at h
  exact ⟨eq_of_beq q, (Q0 h).symm⟩
 | false =>
  rw [q] at h
  cases h
section
variable {CX : CXT} {P : Program} {w : World} {K : PySem.W.Frag} {mg : Str → Option Value} {base : Heap} {N ps : List Str} {qual : Str} {scope : Scope} {f cc : Addr} {cd : Value} {A : Around} {outer : List Env} {s : Shared} {H : Hp} {E : XK} {us : List Value} {vs : List V}
theorem Zyr {h1 : Heap} {tk : Nat} {ocl : Obj} {dv : Option Value}
  (S : Zb5 N ps scope) (hd : A.handled = none) (e0 : Env0 P w K mg base A outer s H) (hl : vs.length = ps.length) (r : Vals vs us) (hcc : K.lookup cc = some ocl) (hcd : ocl.data = .cell dv)
  (hns : h1.Ns s.heap.objs.size (fun x => (ps.zip us).reverse.lookup x)) (hk : ∀ b o, s.heap.get? b = some o → h1.get? b = some o) :
  Inv (cxS CX P w K mg base N qual scope f cd cc A outer s H E) [] (start N vs) H { s with heap := h1, toks := tk } := by
 have hpl : ps.length ≤ N.length := by have := congrArg List.length S.pre; rw [Q5] at this; omega
 have noA : ∀ b : Addr, b ∉ (cxS CX P w K mg base N qual scope f cd cc A outer s H E).ex := fun b z => absurd (show b ∈ ([] : List Addr) from z) (by simp)
 have hb := e0.bs _ _ (e0.mod.kin _ _ hcc)
 refine ⟨⟨e0.mod, S.kind, rfl, rfl, Qu _, fun y z c h1 h2 => ?_, fun y hy => ?_, fun y c hf h => ?_, fun _ => hd, Around.frames_deeper e0.frames, .inr ⟨rfl, rfl⟩, fun b z => absurd z (noA b), e0.bs, e0.bsz, fun b _ _ => noA b, fun b z => absurd z (noA b), e0.funs, e0.frf⟩,
  rfl, e0.bare, Un.kept hk, ⟨_, hns, fun i y v h1 h2 h3 => ?_⟩, fun y c h => ?_, e0.hok.fresh (Qu _), fun y c h => ?_, fun p hp => absurd (show p ∈ ([] : List (Addr × Obj)) from hp) (by simp), e0.hok.kept hk, ?_⟩
 ·exact (Zij h1).1.trans (Zij h2).1.symm
 ·have hy : scope.names.lookup y = some .cell ∨ scope.names.lookup y = some .free := hy
  rcases hy with hy | hy
  ·exact absurd rfl (S.nocell _ (PySem.mem_of_lookup hy))
  ·have := S.free _ (PySem.mem_of_lookup hy) rfl
   dsimp only at this
   subst this
   exact ⟨cc, by show List.lookup _ [_] = _; rw [Hj, beq_self_eq_true]⟩
 ·have := (Zij h).1
  subst this
  exact absurd hf (by show ¬ ((!decide (("__class__" : Str) = "__class__")) = true); rw [decide_eq_true rfl]; decide)
 ·have hi : i < vs.length := by
   unfold L2.start at h2
   by_cases hi : i < vs.length
   ·exact hi
   ·rw [Hu (by simpa using hi)] at h2
    rw [L7] at h2
    split at h2 <;> cases h2
  have ha : vs[i]? = some v := by
   unfold L2.start at h2
   rw [Qy (by simpa using hi), Qn] at h2
   cases e : vs[i]? with
   | none => rw [e] at h2; cases h2
   | some a => rw [e] at h2; cases h2; rfl
  obtain ⟨u, hu, rv⟩ := r.get ha
  have hp : ps[i]? = some y := by
   rw [← S.pre, Hd (by omega)]; exact h1
  have ndP : ps.Nodup := by rw [← S.pre]; exact S.nd.sublist (Lw _ _)
  exact ⟨u, rv, .inl ⟨S.par y (Qp hp), Z02 ndP hp hu⟩⟩
 ·obtain ⟨_, rfl⟩ := Zij h
  exact ⟨dv, _, hk _ _ hb.1, hcd⟩
 ·obtain ⟨_, rfl⟩ := Zij h
  exact hb.2
 ·unfold L2.start
  show _ = N.length
  rw [Qc, Qb, List.length_replicate]
  omega
end
structure PEa (X : Cx) (b : List Stmt) (e : Expr) (t : TE) : Prop where
 run : ∀ (pins : List (Addr × Obj)) (s : Shared) (σ : L2.St) (H : Hp) (Q : VK), Inv X pins σ H s → t σ H Q → PySem.wpAt (model X.prog X.w) X.A (.func b X.env) (eval e X.env) (EP X pins σ Q) X.xe s
structure PSa (X : Cx) (b : List Stmt) (st : Stmt) (t : TS) : Prop where
 run : ∀ (pins : List (Addr × Obj)) (s : Shared) (σ : L2.St) (H : Hp) (D : Ends), Inv X pins σ H s → t D σ H → PySem.wpAt (model X.prog X.w) X.A (.func b X.env) (exec st X.env) (SP X pins D) X.xe s
structure PSsa (X : Cx) (b : List Stmt) (st : List Stmt) (t : TS) : Prop where
 run : ∀ (pins : List (Addr × Obj)) (s : Shared) (σ : L2.St) (H : Hp) (D : Ends), Inv X pins σ H s → t D σ H → PySem.wpAt (model X.prog X.w) X.A (.func b X.env) (execs st X.env) (SP X pins D) X.xe s
section
variable {X : Cx} {b : List Stmt} {e : Expr} {te : TE} {st : Stmt} {rest : List Stmt} {t u : TS} {pos : Pos}
theorem PE.a (h : PE X e te) : PEa X b e te := ⟨fun pins s σ H Q I q => PySem.wpAt_of_wpAny (h.run pins s σ H Q I q)⟩
theorem PS.a (h : PS X st t) : PSa X b st t := ⟨fun pins s σ H D I q => PySem.wpAt_of_wpAny (h.run pins s σ H D I q)⟩
theorem PSs.a (h : PSs X rest t) : PSsa X b rest t := ⟨fun pins s σ H D I q => PySem.wpAt_of_wpAny (h.run pins s σ H D I q)⟩
theorem thnA {α : Type} {m : Sem α} {Q Q' : α → Shared → Prop} {M : Model} {A : Around} {c : Code} {E : Value → Shared → Prop} {s : Shared} (h : PySem.wpAt M A c m Q E s) (hQ : ∀ a s, Q a s → Q' a s) : PySem.wpAt M A c m Q' E s := PySem.ks_wpAt_mono h hQ fun _ _ x => x
theorem Zd5 (h1 : PSa X b st t) (h2 : PSsa X b rest u) : PSsa X b (st :: rest) (tSeq t u) := by
 refine ⟨fun pins s σ H D I h => ?_⟩
 refine PySem.ks_wpAt_execs_cons (thnA (h1.run pins s σ H { D with nx := u D } I h) fun f s1 q => ?_)
 cases f with
 | next =>
  obtain ⟨σ', H', I', q⟩ := q
  exact h2.run pins s1 σ' H' D I' q
 | ret v => exact q
 | brk => exact q
 | cont => exact q
theorem Zle (h1 : PSa X b st t) : PSsa X b [st] t := by
 refine ⟨fun pins s σ H D I h => ?_⟩
 refine PySem.ks_wpAt_execs_cons (thnA (h1.run pins s σ H D I h) fun f s1 q => ?_)
 cases f with
 | next => exact PySem.wpAt_of_wpAny (wpAny_execs_nil q)
 | ret v => exact q
 | brk => exact q
 | cont => exact q
theorem Zh0 (he : PEa X b e te) (hs : swapsWith e none pos.line X.env = pure false := by rfl) : PSa X b (.Expr e pos) (tDrop te) := by
 refine ⟨fun pins s σ H D I h => ?_⟩
 exact PySem.ks_wpAt_Expr_any (thnA (he.run pins s σ H _ I h) fun v s1 ⟨x, H1, I1, r1, q1⟩ => ⟨σ, H1, I1, q1⟩) I.quiet hs
theorem Zvk (he : PEa X b e te) : PSa X b (.Return (some e) pos) (tRet te) := by
 refine ⟨fun pins s σ H D I h => ?_⟩
 exact PySem.ks_wpAt_Return_some (thnA (he.run pins s σ H _ I h) fun v s1 ⟨x, H1, I1, r1, q1⟩ => ⟨x, σ, H1, I1, r1, q1⟩)
theorem Z6u {l r : Expr} {op : Operator} {rr : R2} {ta tb : TE} (ho : OpR X (binaryOp op) rr) (hl : PEa X b l ta) (hr : PEa X b r tb) : PEa X b (.BinOp l op r pos) (tOp rr ta tb) := by
 refine ⟨fun pins s σ H Q I h => ?_⟩
 refine PySem.ks_wpAt_BinOp2 (thnA (hl.run pins s σ H _ I h) fun v s1 ⟨x, H1, I1, r1, q1⟩ => thnA (hr.run pins s1 σ H1 _ I1 q1) fun v2 s2 ⟨y, H2, I2, r2, q2⟩ => ?_)
 exact ho pins s2 σ H2 x y v v2 Q I2 r1 r2 q2
end
theorem Ydz {CX : CXT} {P : Program} {w : World} {K : PySem.W.Frag} {mg : Str → Option Value} {base : Heap} {k : Nat} {f cc : Addr} {name qual : Str} {params : Arguments} {body : List Stmt} {scope : Scope} {dV kV doc pm cdv ct oc : Value} {an od : Option Addr}
  {osl : Array (Option Value)} {N ps : List Str} {sp : Sp} {ocl : Obj} {dv : Option Value} (lk : K.lookup f = some ⟨oc, od, .func (PySem.W.ksFn name qual params body scope dV kV doc pm an cdv ct cc), osl⟩) (hcd : PySem.W.codeIn K cdv qual = true) (hcc : K.lookup cc = some ocl) (hcv : ocl.data = .cell dv)
  (S : Zb5 N ps scope) (len : ∀ vs H Q E, sp vs H Q E → vs.length = ps.length)
  (hbody : ∀ (A : Around) (outer : List Env) (s : Shared) (H : Hp) (vs : List V) (Q : VK) (E : XK), Room k (A.deeper (PySem.W.ksEnv qual scope s.heap.objs.size f cdv cc)) → sp vs H Q E →
   ∃ t, PSsa (cxS CX P w K mg base N qual scope f cdv cc A outer s H E) body body t ∧ t { nx := fun _ H' => Q .non H', rt := Q } (start N vs) H) :
  FnOk P w K mg base CX (k + 1) f (PySem.W.ksFn name qual params body scope dV kV doc pm an cdv ct cc) ps sp := by
 refine ⟨len, fun A outer s H args us vs Q E hr e0 hb r hsp => ?_⟩
 have hl := len _ _ _ _ hsp
 have KX : K.In s.heap := e0.mod.kin.keeps fun b o e => (e0.bs b o e).1
 have lim : s.heap.NoLimit := e0.mod.nolimit.keeps fun b o e => (e0.bs b o e).1
 refine PySem.ks_codeAny_call_defAt (fd := PySem.W.ksFn name qual params body scope dV kV doc pm an cdv ct cc) hr.depth (KX _ _ lk) rfl lim (PySem.W.codeRec_of KX hcd) rfl hb S.nocell (fun y hy => S.par y.1 (List.of_mem_zip hy).1) (fun h1 hns hk => ?_) S.co S.gen S.kind
 obtain ⟨t, ht, hq⟩ := hbody A outer s H vs Q E (hr.deeper _) hsp
 have I : Inv (cxS CX P w K mg base N qual scope f cdv cc A outer s H E) [] (start N vs) H { s with heap := h1, toks := s.toks + (ps.zip us).length } := Zyr S hr.hd e0 hl r hcc hcv hns hk
 refine PySem.ks_wpAt_mono (ht.run [] _ (start N vs) H _ I hq) (fun fl s' hs => ?_) fun e s' hs => hs
 have fin : ∀ {σ' : L2.St} {H' : Hp} {v : V} {u : Value}, Inv (cxS CX P w K mg base N qual scope f cdv cc A outer s H E) [] σ' H' s' → RelV v u → Q v H' → CE outer P w H s Q u s' :=
  fun {σ' H' v u} J rv q => ⟨v, H', J.os, J.bare, J.base, J.hok, rv, q⟩
 cases fl with
 | ret u =>
  obtain ⟨v, σ', H', J, rv, q⟩ := hs
  exact fin J rv q
 | next =>
  obtain ⟨σ', H', J, q⟩ := hs
  exact fin (v := V.non) (u := Value.none) J rfl q
 | brk =>
  obtain ⟨_, _, _, q⟩ := hs
  exact False.elim q
 | cont =>
  obtain ⟨_, _, _, q⟩ := hs
  exact False.elim q
structure Sup (K : PySem.W.Frag) (C D : Addr) (m : Str) (g : Addr) : Prop where
 sub : PySem.W.mroIn K C (.ref D) = some true
 at_ : PySem.W.ks_superIn K C D m = some (some (.ref g))
structure SupD (K : PySem.W.Frag) (prog : Program) (f cc D : Addr) (cdv : Value) : Prop where
 fn : ∃ oc od fd osl ar, K.lookup f = some ⟨oc, od, .func fd, osl⟩ ∧ (fd.params.posonlyargs ++ fd.params.args).head? = some ar ∧ ar.arg = "self"
 code : ∃ cda ccl cdd vs ccs file tf, cdv = .ref cda ∧ K.lookup cda = some ⟨ccl, cdd, .fields vs, ccs⟩ ∧ vs[2]? = some (.str file tf) ∧ ((prog.main.file : Str) == file) = true
 cell : ∃ cl cld csl, K.lookup cc = some ⟨cl, cld, .cell (some (.ref D)), csl⟩
 cls : (PySem.W.clsIn K D).isSome = true
 no : PySem.W.nsIn K PySem.cStatics "thirdparty.any" = some none
 top : (prog.main.scope.names.lookup ("super" : Str)).isSome = false
def tSup (K : PySem.W.Frag) (D : Addr) (m : Str) (g : Addr) (sp : Sp) (E : XK) (t : TA) : TE := fun σ H Q => ∃ a C dx fs, σ[0]? = some (some (.ref a)) ∧ H a = some (.ins C dx fs) ∧ Sup K C D m g ∧ t σ H fun vs H2 => sp (.ref a :: vs) H2 Q E
section
variable {CX CX' : CXT} {P : Program} {w : World} {K : PySem.W.Frag} {mg : Str → Option Value} {base : Heap} {N : List Str} {qual : Str} {scope : Scope} {f cc D g : Addr} {cd : Value} {A : Around} {outer : List Env} {s0 : Shared} {H0 : Hp} {E0' : XK} {b : List Stmt}
variable {k : Nat} {sp : Sp} {E : XK} {m : Str} {p0 p1 apos pos : Pos} {pl : Sem Bool}
theorem Zu1 (d : SupD K P f cc D cd) (hm : mg "super" = none) (hks : scope.names.lookup ("super" : Str) = some .globalImplicit) (hkc : scope.names.lookup ("__class__" : Str) = some .free) (hself : scope.names.lookup ("self" : Str) = some .local) (h0 : N[0]? = some ("self" : Str))
  (hat : (m == ("__class__" : Str)) = false) {pins : List (Addr × Obj)} {σ : L2.St} {H : Hp} {s : Shared} (I : Inv (cxS CX P w K mg base N qual scope f cd cc A outer s0 H0 E0') pins σ H s) {a C dx : Addr} {fs : List (Str × V)} (ha : σ[0]? = some (some (.ref a))) (hi : H a = some (.ins C dx fs)) (sup : Sup K C D m g) (hg : PySem.W.typeIn K (.ref g) = some (.type "function"))
  {whole : Sem Value} {Q : Value × List Value → Shared → Prop} {Ex : Value → Shared → Prop}
  (h : ∀ q s', base.get? q = none → Inv (cxS CX P w K mg base N qual scope f cd cc A outer s0 H0 E0') ((q, PySem.W.methodObj (.ref g) (.ref a)) :: pins) σ H s' → Q (.ref q, []) s') :
  PySem.wpAt (model P w) (A.deeper (PySem.W.ksEnv qual scope s0.heap.objs.size f cd cc)) (.func b (PySem.W.ksEnv qual scope s0.heap.objs.size f cd cc)) (attributeBase (.Call (.Name "super" p0) [] [] p1) m (PySem.W.ksEnv qual scope s0.heap.objs.size f cd cc) whole)
   (fun ov s1 => wpAny (model P w) (A.deeper (PySem.W.ksEnv qual scope s0.heap.objs.size f cd cc)) (getMethod ov m pl) Q Ex s1) Ex s := by
 obtain ⟨oc, od, fd, osl, ar, lk, hp, har⟩ := d.fn
 obtain ⟨hh, gg, dd, tt, os⟩ := s
 obtain ⟨cda, ccl, cdd, vs, ccs, file, tf, rfl, hcode, hvs, hfile⟩ := d.code
 obtain ⟨cl, cld, csl, hcell⟩ := d.cell
 have X : K.In hh := I.kIn
 obtain ⟨oD, cdD, hD1, hD2⟩ : ∃ (oD : Obj) (cdD : ClassData), hh.get? D = some oD ∧ oD.data = .cls cdD := by
  have hc := d.cls
  unfold PySem.W.clsIn at hc
  split at hc
  ·rename_i c d cd' sl ho
   exact ⟨_, _, X _ _ ho, rfl⟩
  ·cases hc
 refine PySem.ks_wpAt_super_base (env := PySem.W.ksEnv qual scope s0.heap.objs.size f (.ref cda) cc) hks hkc hat rfl (X _ _ lk) rfl hp rfl (X _ _ hcode) rfl hvs hfile d.top ?_
 obtain ⟨mb, hb1, hb2⟩ := I.mod.blt
 have kd : scope.kind = .function := I.ok.kind
 refine PySem.W.ks_loadName_global kd hks (Calls.loadGlobal_builtin (env := PySem.W.ksEnv qual scope s0.heap.objs.size f (.ref cda) cc) (I.mod.glob.keeps I.bk) hm (hb1.keeps I.bk) ((hb2 _ (by decide +kernel)).trans Boot.super) ⟨rfl, ?_⟩)
 refine wpAny_loadName_free kd hkc (by show List.lookup _ [_] = _; rw [Hj, beq_self_eq_true]) ⟨_, X _ _ hcell, rfl⟩ ?_
 rw [har]
 obtain ⟨mL, hn, hl⟩ := I.loc
 obtain ⟨u, r, l⟩ := hl 0 "self" (.ref a) h0 ha (.inl hself)
 obtain rfl : u = .ref a := r
 have hms : mL "self" = some (.ref a) := by
  rcases l with ⟨_, l⟩ | ⟨hk, _⟩
  ·exact l
  ·have hk : scope.names.lookup ("self" : Str) = some .cell ∨ scope.names.lookup ("self" : Str) = some .free := hk
   rw [hself] at hk
   rcases hk with hk | hk <;> cases hk
 refine wpAny_loadName_local kd hself hn hms ?_
 refine PySem.ks_wpAny_isType_cls hD1 hD2 ⟨rfl, ?_⟩
 obtain ⟨mA, J, _⟩ := ins_get I.hok hi
 obtain ⟨odx, J, _⟩ := J.look
 refine PySem.ks_wpAny_call_super hD1 hD2 J.at_ J.cls (fun c e => ?_) (PySem.W.looks_mroIn X sup.sub) (fun h' e k => ?_)
 ·have := J.no
  unfold PySem.W.notCls at this
  rw [e] at this
  exact Bool.noConfusion this
 have I1 := pin_new (o := PySem.W.ks_superObj D a C) (h' := h') (t' := tt) I k (Qu _) e (fun v z => nomatch z)
 have X1 : K.In h' := I1.kIn
 have hm' := sup.at_
 cases hc : PySem.W.clsIn K C with
 | none => unfold PySem.W.ks_superIn at hm'; rw [hc] at hm'; cases hm'
 | some cdC =>
  unfold PySem.W.ks_superIn at hm'
  rw [hc] at hm'
  obtain ⟨of, hof, hofc⟩ : ∃ of, h'.get? g = some of ∧ of.cls = .type "function" := by
   have ht' : (K.lookup g).map (·.cls) = some (.type "function") := hg
   cases z : K.lookup g with
   | none => rw [z] at ht'; cases ht'
   | some of => rw [z] at ht'; exact ⟨of, X1 _ _ z, Q0 ht'⟩
  refine PySem.ks_wpAny_getMethod_super e (PySem.W.looks_opaque X1 d.no) (l₀ := cdC.mro) ?_ rfl X1 hm' hof hofc (PySem.W.ks_ne X J hc) hat ?_
  ·exact fun A Q E s k q => wpAny_bind ((PySem.W.looks_clsIn X1 hc) A _ E s k (wpAny_pure q))
  ·exact h _ _ (base_none (unpin I1) (Qu _)) (met_new (g := g) (C := a) (unpin I1))
theorem Zi9 {e : Expr} {es : List Expr} {t : TA} (d : SupD K P f cc D cd) (hm : mg "super" = none) (hg : PySem.W.typeIn K (.ref g) = some (.type "function")) (hgi : PySem.W.fnIn K g = true) (F : FnR P w K mg base CX' k g sp) (hr : Room k (A.deeper (PySem.W.ksEnv qual scope s0.heap.objs.size f cd cc)))
  (hx : Passes CX' (cxS CX P w K mg base N qual scope f cd cc A outer s0 H0 E0') E) (ha : PA (cxS CX P w K mg base N qual scope f cd cc A outer s0 H0 E0') (e :: es) t)
  (hks : scope.names.lookup ("super" : Str) = some .globalImplicit := by rfl) (hkc : scope.names.lookup ("__class__" : Str) = some .free := by rfl) (hself : scope.names.lookup ("self" : Str) = some .local := by rfl) (h0 : N[0]? = some ("self" : Str) := by rfl) (hat : (m == ("__class__" : Str)) = false := by decide)
  (hst : starEach (e :: es) (PySem.W.ksEnv qual scope s0.heap.objs.size f cd cc) = (false, eval e (PySem.W.ksEnv qual scope s0.heap.objs.size f cd cc)) :: starEach es (PySem.W.ksEnv qual scope s0.heap.objs.size f cd cc) := by rfl)
  (hpl : (backTo pos (starEach es (PySem.W.ksEnv qual scope s0.heap.objs.size f cd cc))).any (·.1) = false := by rfl)
  (he : eval (.Call (.Attribute (.Call (.Name "super" p0) [] [] p1) m apos) (e :: es) [] pos) (PySem.W.ksEnv qual scope s0.heap.objs.size f cd cc) = (do
   let ov ← attributeBase (.Call (.Name "super" p0) [] [] p1) m (PySem.W.ksEnv qual scope s0.heap.objs.size f cd cc) (eval (.Call (.Name "super" p0) [] [] p1) (PySem.W.ksEnv qual scope s0.heap.objs.size f cd cc))
   standAt apos.atName
   let (fv, first) ← holding [ov] (getMethod ov m pl)
   callWith pos fv first (backTo pos (starEach (e :: es) (PySem.W.ksEnv qual scope s0.heap.objs.size f cd cc))) []) := by rfl) :
  PEa (cxS CX P w K mg base N qual scope f cd cc A outer s0 H0 E0') b (.Call (.Attribute (.Call (.Name "super" p0) [] [] p1) m apos) (e :: es) [] pos) (tSup K D m g sp E t) := by
 refine ⟨fun pins s σ H Q I h => ?_⟩
 obtain ⟨a, C, dx, fs, h1, h2, h3, q⟩ := h
 refine PySem.ks_wpAt_MethodCall (pl := pl) (Zu1 d hm hks hkc hself h0 hat I h1 h2 h3 hg fun q' s1 hb I1 => ?_) he
 refine callwith_cm I1 hb hgi (thn (ha.run pos _ s1 σ H _ I1 q) fun us s2 ⟨vs, H2, I2, r, q2⟩ => ⟨?_, ?_⟩) hst hpl
 ·exact ⟨pin_at I2, I2.kIn⟩
 ·exact run_cm F hr hx I2 r q2
theorem Zxd (d : SupD K P f cc D cd) (hm : mg "super" = none) (hg : PySem.W.typeIn K (.ref g) = some (.type "function")) (hgi : PySem.W.fnIn K g = true) (F : FnR P w K mg base CX' k g sp) (hr : Room k (A.deeper (PySem.W.ksEnv qual scope s0.heap.objs.size f cd cc)))
  (hx : Passes CX' (cxS CX P w K mg base N qual scope f cd cc A outer s0 H0 E0') E)
  (hks : scope.names.lookup ("super" : Str) = some .globalImplicit := by rfl) (hkc : scope.names.lookup ("__class__" : Str) = some .free := by rfl) (hself : scope.names.lookup ("self" : Str) = some .local := by rfl) (h0 : N[0]? = some ("self" : Str) := by rfl) (hat : (m == ("__class__" : Str)) = false := by decide)
  (he : eval (.Call (.Attribute (.Call (.Name "super" p0) [] [] p1) m apos) [] [] pos) (PySem.W.ksEnv qual scope s0.heap.objs.size f cd cc) = (do
   let ov ← attributeBase (.Call (.Name "super" p0) [] [] p1) m (PySem.W.ksEnv qual scope s0.heap.objs.size f cd cc) (eval (.Call (.Name "super" p0) [] [] p1) (PySem.W.ksEnv qual scope s0.heap.objs.size f cd cc))
   standAt apos.atName
   let (fv, first) ← holding [ov] (getMethod ov m pl)
   callWith pos fv first (backTo pos (starEach [] (PySem.W.ksEnv qual scope s0.heap.objs.size f cd cc))) []) := by rfl) :
  PEa (cxS CX P w K mg base N qual scope f cd cc A outer s0 H0 E0') b (.Call (.Attribute (.Call (.Name "super" p0) [] [] p1) m apos) [] [] pos) (tSup K D m g sp E tNil) := by
 refine ⟨fun pins s σ H Q I h => ?_⟩
 obtain ⟨a, C, dx, fs, h1, h2, h3, q⟩ := h
 refine PySem.ks_wpAt_MethodCall (pl := pl) (Zu1 d hm hks hkc hself h0 hat I h1 h2 h3 hg fun q' s1 hb I1 => ?_) he
 exact PySem.W.callWith_M0 (first := []) (X := ⟨pin_at I1, I1.kIn⟩) hgi (run_cm F hr hx I1 .nil q)
end
abbrev FnS : Type := Option (Str × Str × Arguments × FuncBody × Scope × Addr × List Str × Addr)
def fnS (K : PySem.W.Frag) (p : Str × Option Str) : FnS := match K.lookup (fAd K p) with
 | some ⟨_, _, .func fd, _⟩ => some (fd.name, fd.qualname, fd.params, fd.body, fd.scope, fd.globals, fd.closure.map (·.1), fd.builtins)
 | _ => none
def valS (d : DefD) : FnS := some (d.name, d.qual, d.params, .stmts d.body, d.scope, mainGlobals, ["__class__"], builtinsNs)
def supB (P : Program) (K : PySem.W.Frag) (D : Str) (d : DefD) : Bool := d.ok K && ((match K.lookup (fAd K d.at_) with
 | some ⟨_, _, .func fd, _⟩ => (match fd.closure with
   | [(_, cc)] => (match K.lookup cc with
    | some ⟨_, _, .cell (some (.ref D')), _⟩ => decide (D' = ga K D)
    | _ => false)
   | _ => false) && ((match (fd.params.posonlyargs ++ fd.params.args).head? with
    | some ar => decide (ar.arg = ("self" : Str))
    | none => false) && (match fd.code with
     | .ref cda => (match K.lookup cda with
      | some ⟨_, _, .fields vs, _⟩ => (match (vs[2]? : Option Value) with
       | some (.str file _) => ((P.main.file : Str) == file)
       | _ => false)
      | _ => false)
     | _ => false))
 | _ => false) && ((PySem.W.clsIn K (ga K D)).isSome && (eqO (PySem.W.nsIn K PySem.cStatics "thirdparty.any") (some none) && !(P.main.scope.names.lookup ("super" : Str)).isSome)))
structure FunS (P : Program) (K : PySem.W.Frag) (x qual : Str) (params : Arguments) (body : List Stmt) (scope : Scope) (dvs : List V) (kws : List (Str × V)) (f : Addr) (fd : FuncData) (D : Addr) : Prop where
 ex : ∃ (oc : Value) (od : Option Addr) (dV kV doc pm : Value) (an : Option Addr) (cdv ct : Value) (osl : Array (Option Value)) (cc : Addr),
  fd = PySem.W.ksFn x qual params body scope dV kV doc pm an cdv ct cc ∧ K.lookup f = some ⟨oc, od, .func fd, osl⟩ ∧ PySem.W.codeIn K cdv qual = true ∧ DflV K dV dvs ∧ KwdV K kV kws ∧ SupD K P f cc D cdv
 kp : PySem.W.keepIn K (.ref f) = true
theorem Z90 {P : Program} {K : PySem.W.Frag} {D : Str} {d : DefD} (e : fnS K d.at_ = valS d) (c : supB P K D d = true) : FunS P K d.name d.qual d.params d.body d.scope (d.dvs K) (d.kws K) (fAd K d.at_) (fdOf K d.at_) (ga K D) := by
 obtain ⟨c1, c⟩ := ba c
 obtain ⟨cA, c⟩ := ba c
 obtain ⟨cB, c⟩ := ba c
 obtain ⟨cC, cE⟩ := ba c
 obtain ⟨kp, c2⟩ := ba c1
 unfold fnS at e
 unfold fdOf
 cases q : K.lookup (fAd K d.at_) with
 | none =>
  rw [q] at c2
  cases c2
 | some o =>
  obtain ⟨oc, od, dt, osl⟩ := o
  rw [q] at c2 e cA
  cases dt with
  | func fd =>
   obtain ⟨n1, n2, n3, n4, n5, n6, n7, n8, n9, n10, n11, n12, n13, n14, n15⟩ := fd
   have e2 : (some (n1, n2, n3, n4, n5, n6, n7.map (·.1), n15) : FnS) = (some (d.name, d.qual, d.params, FuncBody.stmts d.body, d.scope, mainGlobals, [("__class__" : Str)], builtinsNs) : FnS) := e
   simp only [Option.some.injEq, Prod.mk.injEq] at e2
   obtain ⟨h1, h2, h3, h4, h5, h6, h7, h8⟩ := e2
   subst h1 h2 h3 h4 h5 h6 h8
   have c3 : (PySem.W.codeIn K n13 d.qual && (dflB K n8 (d.dvs K) && kwdB K n9 (d.kws K))) = true := c2
   obtain ⟨k1, k2⟩ := ba c3
   obtain ⟨k3, k4⟩ := ba k2
   match n7, h7 with
   | [(y, cc)], h7 =>
    have hy : y = ("__class__" : Str) := by simpa using h7
    subst hy
    obtain ⟨a1, a2⟩ := ba cA
    obtain ⟨a2, a3⟩ := ba a2
    refine ⟨⟨oc, od, n8, n9, n10, n11, n12, n13, n14, osl, cc, rfl, q, k1, dflB_ok k3, kwdB_ok k4, ?_, ?_, ?_, cB, eqO_ok cC, by simpa using cE⟩, kp⟩
    ·dsimp only at a2
     split at a2
     ·rename_i ar har
      exact ⟨oc, od, _, osl, ar, q, har, of_decide_eq_true a2⟩
     ·cases a2
    ·dsimp only at a3
     split at a3
     ·rename_i cda
      split at a3
      ·rename_i ccl cdd vs ccs hl
       split at a3
       ·rename_i file tf hv
        exact ⟨_, ccl, cdd, vs, ccs, file, tf, rfl, hl, hv, a3⟩
       ·cases a3
      ·cases a3
     ·cases a3
    ·dsimp only at a1
     split at a1
     ·rename_i cl cld D' csl hl
      rw [of_decide_eq_true a1] at hl
      exact ⟨cl, cld, csl, hl⟩
     ·cases a1
   | [], h7 => cases h7
   | _ :: _ :: _, h7 => simp at h7
  | _ => cases c2
section
variable {P : Program} {w : World} {K : PySem.W.Frag} {mg : Str → Option Value} {base : Heap} {x qual : Str} {params : Arguments} {body : List Stmt} {scope : Scope} {dvs : List V} {kws : List (Str × V)} {f D : Addr} {fd : FuncData}
theorem FunS.ok {CX : CXT} {N ps : List Str} {k : Nat} {sp : Sp} (F : FunS P K x qual params body scope dvs kws f fd D) (S : Zb5 N ps scope) (len : ∀ vs H Q E, sp vs H Q E → vs.length = ps.length)
  (hbody : ∀ (cdv : Value) (cc : Addr) (A : Around) (outer : List Env) (s : Shared) (H : Hp) (vs : List V) (Q : VK) (E : XK), SupD K P f cc D cdv → Room k (A.deeper (PySem.W.ksEnv qual scope s.heap.objs.size f cdv cc)) → sp vs H Q E →
   ∃ t, PSsa (cxS CX P w K mg base N qual scope f cdv cc A outer s H E) body body t ∧ t { nx := fun _ H' => Q .non H', rt := Q } (L2.start N vs) H) : FnOk P w K mg base CX (k + 1) f fd ps sp := by
 obtain ⟨oc, od, dV, kV, doc, pm, an, cdv, ct, osl, cc, rfl, lk, hcd, _, _, d⟩ := F.ex
 obtain ⟨cl, cld, csl, hcc⟩ := d.cell
 exact Ydz lk hcd hcc rfl S len fun A outer s H vs Q E hr hsp => hbody cdv cc A outer s H vs Q E d hr hsp
theorem FunS.bindsN {ps : List Str} (F : FunS P K x qual params body scope [] kws f fd D)
  (h : ∀ (kV doc pm : Value) (an : Option Addr) (cdv ct : Value) (cc : Addr) (us : List Value), us.length = ps.length → bindArgs (PySem.W.ksFn x qual params body scope .none kV doc pm an cdv ct cc) ⟨us, []⟩ = pure (ps.zip us)) : Binds K fd ps [] := by
 obtain ⟨oc, od, dV, kV, doc, pm, an, cdv, ct, osl, cc, rfl, lk, hcd, hD, hK, d⟩ := F.ex
 rcases hD with ⟨_, rfl⟩ | ⟨e, _⟩
 ·exact .all (h kV doc pm an cdv ct cc)
 ·exact absurd rfl e
end
structure Yat (fa : List Fa) (fn fs : List DefD) (ts : List Tab) (ex : PySem.W.Frag → Bool) (w : World) (K : PySem.W.Frag) : Prop where
 c : Yg3 fa fn ts ex w K
 s : (fs.map fun d => fnS K d.at_) = fs.map valS
theorem Yat.at_ {fa : List Fa} {fn fs : List DefD} {ts : List Tab} {ex : PySem.W.Frag → Bool} {w : World} {K : PySem.W.Frag} (c : Yat fa fn fs ts ex w K) (i : Nat) {d : DefD} (h : fs[i]? = some d) : fnS K d.at_ = valS d := by
 have e : (fs.map fun d => fnS K d.at_)[i]? = (fs.map valS)[i]? := by rw [c.s]
 rw [Qn, Qn, h] at e
 exact Q0 e
open C8 (tCut pss_cut)
variable {K : PySem.W.Frag} {mg : Str → Option Value} {P : Program} {w : World}
local macro_rules | `(tactic| walk_at "zs") => `(tactic| repeat (first
 | with_reducible refine Ye3 ?_
 | with_reducible refine Yfi ?_
 | with_reducible refine s_if ?_
 | with_reducible refine Yez (by with_unfolding_all exact rfl) ?_
 | with_reducible refine s_c ?_
 | with_reducible refine s_op ?_
 | with_reducible refine Ybv ?_
 | with_reducible refine Ye7 ?_
 | with_reducible refine s_cb ?_
 | with_reducible refine s_call ?_
 | with_reducible refine Ye4 ?_
 | with_reducible refine Ybc ?_
 | with_reducible refine s_bl ?_
 | with_reducible refine Ye6 ?_
 | with_reducible refine Ybl ?_
 | with_reducible refine Ye2 ?_
 | with_reducible refine s_sl ?_
 | with_reducible refine Ybh ?_
 | with_reducible refine Z4c ?_
 | with_reducible refine Yfc ?_
 | with_reducible refine Ybs ?_
 | with_reducible refine Yfa ?_
 | with_reducible refine Ye0 ?_
 | with_reducible refine s_bm ?_
 | with_reducible refine Ybk ?_
 | with_reducible refine Yey ?_
 | with_reducible refine Ye1 ?_
 | with_reducible refine Yex ?_
 | with_reducible refine Z0w ?_
 | with_reducible refine Ybp ?_
 | with_reducible refine Ybq ?_
 | with_reducible refine Z0x ?_
 | with_reducible refine Z8r ?_
 | with_reducible refine Ybn ?_
 | with_reducible refine s_in ?_
 | with_reducible refine Z8q ?_
 | with_reducible refine Z8t ?_
 | with_reducible refine Ybe ?_
 | with_reducible refine Yfg ?_
 | with_reducible refine Ybu ?_
 | with_reducible refine Ybw ?_
 | with_reducible refine Ye5 ?_
 | with_reducible refine Ybj ?_
 | with_reducible refine Ybb ?_
 | with_reducible refine Ybf ?_
 | with_reducible refine iteT ?_
 | with_reducible refine iteF ?_
 | with_reducible refine s_or ?_
 | with_reducible refine Yfj ?_
 | with_reducible refine Ybx ?_
 | with_reducible refine Ybd ?_
 | with_reducible refine Ye9 ?_
 | with_reducible refine Yfb ?_
 | with_reducible refine Yfe ?_
 | with_reducible refine Yff ?_
 | with_reducible refine Ybr ?_
 | with_reducible refine s_eq (by with_unfolding_all exact rfl) ?_
 | with_reducible refine s_ne (by with_unfolding_all exact rfl) ?_
 | with_reducible refine Yfd ?_
 | with_reducible refine s_un ?_
 | with_reducible refine Ye8 ?_
 | with_reducible refine s_bool ?_
 | with_reducible refine Ybm ?_
 | with_reducible refine Yfh ?_
 | with_reducible refine Ybt ?_
 | with_reducible refine Ybi ?_
 | with_reducible refine Ybg ?_
 | with_reducible refine Z8s ?_))
theorem Yek : ∀ {u z : List Nat}, u.Pairwise (· < ·) → z.Pairwise (· < ·) → (∀ c, c ∈ u ↔ c ∈ z) → u = z := by
 intro u z hu hz m
 have nu : u.Nodup := Zh1 hu
 have nz : z.Nodup := Zh1 hz
 have p : u.Perm z := (List.perm_ext_iff_of_nodup nu nz).mpr m
 exact Lz (fun a b _ _ h1 h2 => absurd h1 (by omega)) hu hz p
theorem Zjo {ls z : List Nat} : isW ls z = true ↔ ∀ c ∈ z, c ∈ 45 :: ls := by
 unfold isW
 simp only [Q8, decide_eq_true_eq]
theorem Zr0 {z : List Nat} {i : Int} (h : -(z.length : Int) ≤ i) (h2 : i < z.length) : ∃ c, atI z i = some c := by
 unfold atI ixN
 by_cases h0 : 0 ≤ i
 ·rw [if_pos h0, if_pos h2]
  exact ⟨_, Qf (by omega)⟩
 ·rw [if_neg h0, if_pos (by omega)]
  exact ⟨_, Qf (by omega)⟩
theorem Z6q (n d : Nat) : HT.sIx n d (some (-1)) = ((-1 : Int) + (n : Int)).toNat := rfl
theorem inner_mk (ld : List Nat) : inner (91 :: ld ++ [93]) = ld := by
 unfold inner cut
 have hl : (91 :: ld ++ [93]).length = ld.length + 2 := by simp
 have e1 : HT.sIx (91 :: ld ++ [93]).length 0 (some 1) = 1 := by
  show HT.sIx _ _ (some ((1 : Nat) : Int)) = 1
  rw [HT.sIx_nat, hl]
  omega
 have e2 : HT.sIx (91 :: ld ++ [93]).length (91 :: ld ++ [93]).length (some (-1)) = ld.length + 1 := by
  rw [Z6q, hl]
  omega
 rw [e1, e2]
 show (ld ++ [93]).take (ld.length + 1 - 1) = ld
 rw [G0, Hv]
 rfl
theorem Z3f {ls : List Nat} (asc : ls.Pairwise (· < ·)) (sm : ∀ c ∈ ls, c ∈ small) : (45 :: ls).Pairwise (· < ·) := by
 refine Gh.mpr ⟨fun c hc => ?_, asc⟩
 have h : ∀ c ∈ small, 45 < c := by decide
 exact h c (sm c hc)
theorem Yce {ls ld : List Nat} (h : ld.Sublist (45 :: ls)) (ne : ld ≠ []) (asc : ls.Pairwise (· < ·)) (sm : ∀ c ∈ ls, c ∈ small) : okS ls (91 :: ld ++ [93]) := by
 refine ⟨?_, atI_nat (j := 0) rfl, atI_last (91 :: ld) 93, ?_, ?_⟩
 ·have := Gf.mpr ne
  simp
  omega
 ·rw [inner_mk]
  exact Zjo.mpr fun c hc => h.subset hc
 ·rw [inner_mk]
  exact (Z3f asc sm).sublist h
theorem Z9f (z t : List Nat) : ((Sum.inr (S z) : Key) = Sum.inr (S t)) ↔ z = t := by
 constructor
 ·intro h
  have := Sum.inr.inj h
  simpa using this
 ·rintro rfl
  rfl
theorem Zx6 (ls vw : List Nat) : (cons ls vw).length ≤ ls.length := Th _ _
theorem hu1 {A : Around} {k : Nat} (hr : Room k A) : A.units + 1 < cLine := by
 have := hr.units
 omega
end Cl
namespace Cl
open PySem PySem.Spec PyProof.Rows L2 He ClX
open StX (CallO callO_with)
section
variable {X : Cx} {e fe : Expr} {es : List Expr} {t u tf : TE} {ta : TA} {pos : Pos} {CX : CXT} {k : Nat} {g : Addr} {sp : Sp} {E : XK} {ES : L2.St → XK}
def Zwz (K : PySem.W.Frag) (g : Addr) (sp : Sp) (E : XK) (tf : TE) (t : TA) : TE := fun σ H Q => tf σ H fun y H1 => ∃ a, y = V.ref a ∧ t σ H1 fun vs H2 => (∃ C dx fs, H2 a = some (.ins C dx fs) ∧ CallO K C g) ∧ sp (V.ref a :: vs) H2 Q E
theorem Z9v {pins : List (Addr × Obj)} {σ : L2.St} {H : Hp} {s : Shared} {a C dx : Addr} {fs : List (Str × V)} (I : Inv X pins σ H s) (h : H a = some (.ins C dx fs)) : ∃ ox od, PySem.W.InstAt s.heap a ox C od ∧ ox.data = .plain := by
 obtain ⟨mA, O, _⟩ := ins_get I.hok h
 obtain ⟨od, J, _⟩ := O.look
 exact ⟨_, _, J, rfl⟩
theorem Z4h (hf : PE X fe tf) (F : FnR X.prog X.w X.K X.mg X.base CX k g sp) (hr : Room k X.A) (hx : Passes CX X E) (ha : PA X (e :: es) ta)
  (ht : eval (.Call fe (e :: es) [] pos) X.env = (do callWith pos (← eval fe X.env) [] (backTo pos (starEach (e :: es) X.env)) (backToKw pos (keywordEach [] X.env))) := by rfl)
  (he : starEach (e :: es) X.env = (false, eval e X.env) :: starEach es X.env := by rfl) (hpl : (backTo pos (starEach es X.env)).any (·.1) = false := by rfl) : PE X (.Call fe (e :: es) [] pos) (Zwz X.K g sp E tf ta) := by
 refine ⟨fun pins s σ H Q I h => ?_⟩
 refine PyProof.Rows.Call_ (thn (hf.run pins s σ H _ I h) fun u s1 ⟨y, H1, I1, ry, a, ey, q⟩ => ?_) ht
 subst ey
 obtain rfl : u = Value.ref a := ry
 refine callO_with (thn (ha.run pos pins s1 σ H1 _ I1 q) fun us s2 ⟨vs, H2, I2, r, ⟨C, dx, fs, hi, c⟩, q2⟩ => ?_) he hpl
 obtain ⟨ox, od, J, hd⟩ := Z9v I2 hi
 refine ⟨⟨C, ox, od, J, hd⟩, ?_⟩
 exact wpAny_call (PySem.W.kco_code I2.kIn J hd c.at_ c.fn c.fi (run_fnR (us := .ref a :: us) (vs := .ref a :: vs) F hr hx I2 (.cons rfl r) q2))
end
def tFs (ts : List TE) : TE := fun σ H Q => tJs ts Str.empty σ H fun out H1 => Q (.str out) H1
theorem Yfq {X : Cx} {v1 v2 : Expr} {rest : List Expr} {ts : List TE} {pos : Pos} (h : PJ X (v1 :: v2 :: rest) ts) : PE X (.JoinedStr (v1 :: v2 :: rest) pos) (tFs ts) := pe_joined h
def Z23 (K : PySem.W.Frag) (C g : Addr) : Bool := eqO (PySem.W.findIn K (.ref C) "__call__") (some (some (.ref g))) && (PySem.W.isFn K (.ref g) && PySem.W.fnIn K g)
theorem Z22 {K : PySem.W.Frag} {C g : Addr} (h : Z23 K C g = true) : CallO K C g := by
 obtain ⟨h1, h⟩ := ba h
 obtain ⟨h2, h3⟩ := ba h
 exact ⟨eqO_ok h1, h2, h3⟩
def Z9b (K : PySem.W.Frag) (C : Addr) (m : Str) (f : Addr) : Bool := eqO (PySem.W.findIn K (.ref C) m) (some (some (.ref f))) && (PySem.W.isFn K (.ref f) && PySem.W.keepIn K (.ref f))
theorem Z4p {K : PySem.W.Frag} {C f : Addr} {m : Str} (h : Z9b K C m f = true) : Meth K C m f := by
 obtain ⟨h1, h⟩ := ba h
 obtain ⟨h2, h3⟩ := ba h
 exact ⟨eqO_ok h1, h2, h3⟩
def Zzu (K : PySem.W.Frag) (C D : Addr) (m : Str) (g : Addr) : Bool := decide (PySem.W.mroIn K C (.ref D) = some true) && eqO (PySem.W.ks_superIn K C D m) (some (some (.ref g)))
theorem Zzt {K : PySem.W.Frag} {C D g : Addr} {m : Str} (h : Zzu K C D m g = true) : Sup K C D m g := by
 obtain ⟨h1, h2⟩ := ba h
 exact ⟨of_decide_eq_true h1, eqO_ok h2⟩
end Cl
namespace Cl
open PySem PySem.Spec PyProof.Rows L2 He ClX
section
variable {P : Program} {K : PySem.W.Frag} {x qual : Str} {params : Arguments} {body : List Stmt} {scope : Scope} {kws : List (Str × V)} {f D : Addr} {fd : FuncData} {ps : List Str}
theorem FunS.kbinds0 (F : FunS P K x qual params body scope [] kws f fd D) (n : Nat) (ks : List Str)
  (h : ∀ (kV doc pm : Value) (an : Option Addr) (cdv ct : Value) (cc : Addr) (us ws : List Value), us.length = n → ws.length = ks.length →
   bindArgs (PySem.W.ksFn x qual params body scope .none kV doc pm an cdv ct cc) ⟨us, ks.zip ws⟩ = pure (ps.zip (us ++ ws))) :
  KBn K fd ps n ks (fun us ws => us ++ ws) (fun vs zs => vs ++ zs) := by
 obtain ⟨oc, od, dV, kV, doc, pm, an, cdv, ct, osl, cc, rfl, lk, hcd, hD, hK, _⟩ := F.ex
 rcases hD with ⟨_, rfl⟩ | ⟨e, _⟩
 ·exact ⟨fun s us ws X l1 l2 => .of_eq (h kV doc pm an cdv ct cc us ws l1 l2), fun r1 r2 => r1.append r2⟩
 ·exact absurd rfl e
end
structure FnRK (P : Program) (w : World) (K : PySem.W.Frag) (mg : Str → Option Value) (base : Heap) (CX : CXT) (k : Nat) (f : Addr) (n : Nat) (ks : List Str) (sp : Sp) : Prop where
 ex : ∃ fd ps, FnOk P w K mg base CX k f fd ps sp ∧ KBn K fd ps n ks (fun us ws => us ++ ws) (fun vs zs => vs ++ zs)
def Z77 (K : PySem.W.Frag) (D : Addr) (m : Str) (g : Addr) (n mm : Nat) (sp : Sp) (E : XK) (t tk : TA) : TE := fun σ H Q => ∃ a C dx fs, σ[0]? = some (some (.ref a)) ∧ H a = some (.ins C dx fs) ∧ Sup K C D m g ∧ t σ H fun vs H1 => tk σ H1 fun zs H2 => vs.length = n ∧ zs.length = mm ∧ sp ((.ref a :: vs) ++ zs) H2 Q E
section
variable {CX CX' : CXT} {P : Program} {w : World} {K : PySem.W.Frag} {mg : Str → Option Value} {base : Heap} {N : List Str} {qual : Str} {scope : Scope} {f cc D g : Addr} {cd : Value} {A : Around} {outer : List Env} {s0 : Shared} {H0 : Hp} {E0' : XK} {b : List Stmt}
variable {k n : Nat} {ks : List Str} {sp : Sp} {E : XK} {m : Str} {p0 p1 apos pos : Pos} {pl : Sem Bool}
theorem Z8w {X : Cx} {pins : List (Addr × Obj)} {σ : L2.St} {H : Hp} {s : Shared} {C q : Addr} {Q : VK} {us ws : List Value} {vs zs : List V} (F : FnRK X.prog X.w X.K X.mg X.base CX' k g (n + 1) ks sp) (hr : Room k X.A) (hx : Passes CX' X E) (I : Inv X ((q, PySem.W.methodObj (.ref g) (.ref C)) :: pins) σ H s)
  (r : Vals vs us) (rz : Vals zs ws) (l1 : vs.length = n) (l2 : zs.length = ks.length) (h : sp ((.ref C :: vs) ++ zs) H Q E) : wpAny (model X.prog X.w) X.A (call (.ref q) us (ks.zip ws)) (EP X pins σ Q) X.xe s := by
 obtain ⟨fd, ps, F, hb⟩ := F.ex
 have r1 : Vals (V.ref C :: vs) (Value.ref C :: us) := .cons rfl r
 have r2 := hb.rel r1 rz
 have n1 : (Value.ref C :: us).length = n + 1 := by
  rw [Qe, ← r.length, l1]
 have z : wpAny (model X.prog X.w) X.A (call (.ref q) us (ks.zip ws)) (EP X ((q, PySem.W.methodObj (.ref g) (.ref C)) :: pins) σ Q) X.xe s := by
  refine wpAny_call (PySem.W.method_call (pin_at I) (codeAny_mono (F.run X.A X.stack s H ⟨.ref C :: us, ks.zip ws⟩ _ _ Q E hr I.env0 (hb.to s (.ref C :: us) ws I.kIn n1 (rz.length.symm.trans l2)) r2 h) fun r s' hq => ?_))
  cases r with
  | error e => exact hx _ σ H s e s' I hq
  | ok fl =>
   cases fl with
   | ret u => exact I.after hq
   | next => exact False.elim hq
   | brk => exact False.elim hq
   | cont => exact False.elim hq
 exact thn z fun _ _ y => unpinE y
theorem Zkd {M : Model} {A : Around} {c : Code} {E : Value → Shared → Prop} {s : Shared} {env : Env} {o : Expr} {name : Str} {args : List Expr} {kws : List Keyword} {apos pos : Pos} {pl : Sem Bool} {Q : Value → Shared → Prop}
  (h : PySem.wpAt M A c (attributeBase o name env (eval o env)) (fun ov s1 => wpAny M A (getMethod ov name pl) (fun fx s2 => wpAny M A (callWith pos fx.1 fx.2 (backTo pos (starEach args env)) (backToKw pos (keywordEach kws env))) Q E s2) E s1) E s)
  (he : eval (.Call (.Attribute o name apos) args kws pos) env = (do
   let ov ← attributeBase o name env (eval o env)
   standAt apos.atName
   let (f, first) ← holding [ov] (getMethod ov name pl)
   callWith pos f first (backTo pos (starEach args env)) (backToKw pos (keywordEach kws env)))) : PySem.wpAt M A c (eval (.Call (.Attribute o name apos) args kws pos) env) Q E s := by
 rw [he]
 refine PySem.wpAt_bind (PySem.wpAt_mono h (fun ov s1 h1 => PySem.wpAt_of_wpAny ?_) fun _ _ x => x)
 exact wpAny_bind (wpAny_standAt (wpAny_bind (wpAny_holding (wpAny_mono h1 (fun fx s2 h2 => h2) fun _ _ x => x))))
theorem Z4g {e : Expr} {es : List Expr} {kws : List Keyword} {t tk : TA} (d : SupD K P f cc D cd) (hm : mg "super" = none) (hg : PySem.W.typeIn K (.ref g) = some (.type "function")) (hgi : PySem.W.fnIn K g = true) (F : FnRK P w K mg base CX' k g (n + 1) ks sp) (hr : Room k (A.deeper (PySem.W.ksEnv qual scope s0.heap.objs.size f cd cc)))
  (hx : Passes CX' (cxS CX P w K mg base N qual scope f cd cc A outer s0 H0 E0') E) (ha : PA (cxS CX P w K mg base N qual scope f cd cc A outer s0 H0 E0') (e :: es) t) (hkw : PK (cxS CX P w K mg base N qual scope f cd cc A outer s0 H0 E0') kws tk)
  (hall : (backToKw pos (keywordEach kws (PySem.W.ksEnv qual scope s0.heap.objs.size f cd cc))).all (·.1.isSome) = true := by rfl) (hks' : (backToKw pos (keywordEach kws (PySem.W.ksEnv qual scope s0.heap.objs.size f cd cc))).filterMap (·.1) = ks := by rfl)
  (hks : scope.names.lookup ("super" : Str) = some .globalImplicit := by rfl) (hkc : scope.names.lookup ("__class__" : Str) = some .free := by rfl) (hself : scope.names.lookup ("self" : Str) = some .local := by rfl) (h0 : N[0]? = some ("self" : Str) := by rfl) (hat : (m == ("__class__" : Str)) = false := by decide)
  (hst : starEach (e :: es) (PySem.W.ksEnv qual scope s0.heap.objs.size f cd cc) = (false, eval e (PySem.W.ksEnv qual scope s0.heap.objs.size f cd cc)) :: starEach es (PySem.W.ksEnv qual scope s0.heap.objs.size f cd cc) := by rfl)
  (hpl : ((backTo pos (starEach (e :: es) (PySem.W.ksEnv qual scope s0.heap.objs.size f cd cc))).any (·.1) || (backToKw pos (keywordEach kws (PySem.W.ksEnv qual scope s0.heap.objs.size f cd cc))).any (·.1.isNone)) = false := by rfl)
  (he : eval (.Call (.Attribute (.Call (.Name "super" p0) [] [] p1) m apos) (e :: es) kws pos) (PySem.W.ksEnv qual scope s0.heap.objs.size f cd cc) = (do
   let ov ← attributeBase (.Call (.Name "super" p0) [] [] p1) m (PySem.W.ksEnv qual scope s0.heap.objs.size f cd cc) (eval (.Call (.Name "super" p0) [] [] p1) (PySem.W.ksEnv qual scope s0.heap.objs.size f cd cc))
   standAt apos.atName
   let (fv, first) ← holding [ov] (getMethod ov m pl)
   callWith pos fv first (backTo pos (starEach (e :: es) (PySem.W.ksEnv qual scope s0.heap.objs.size f cd cc))) (backToKw pos (keywordEach kws (PySem.W.ksEnv qual scope s0.heap.objs.size f cd cc)))) := by rfl) :
  PEa (cxS CX P w K mg base N qual scope f cd cc A outer s0 H0 E0') b (.Call (.Attribute (.Call (.Name "super" p0) [] [] p1) m apos) (e :: es) kws pos) (Z77 K D m g n ks.length sp E t tk) := by
 refine ⟨fun pins s σ H Q I h => ?_⟩
 obtain ⟨a, C, dx, fs, h1, h2, h3, q⟩ := h
 refine Zkd (pl := pl) (Zu1 d hm hks hkc hself h0 hat I h1 h2 h3 hg fun q' s1 hb I1 => ?_) he
 refine PySem.W.callWith_of (P := PySem.W.MethP K q' g (.ref a)) (first := []) hpl (PySem.W.keeps_M hgi) (PyProof.Rows.evalArgs_kw2 hall (thn (ha.run pos _ s1 σ H _ I1 q) fun us s2 ⟨vs, H2, I2, r, q2⟩ => ?_) hst)
 refine thn (hkw.run pos _ s2 σ H2 _ I2 q2) fun ws s3 ⟨zs, H3, I3, rz, l1, l2, q3⟩ => ⟨⟨pin_at I3, I3.kIn⟩, ?_⟩
 show wpAny _ _ (call (.ref q') us (((backToKw pos (keywordEach kws (PySem.W.ksEnv qual scope s0.heap.objs.size f cd cc))).filterMap (·.1)).zip ws)) _ _ s3
 rw [hks']
 exact Z8w F hr hx I3 r rz l1 l2 q3
end
section
variable {X : Cx} {b : List Stmt} {e : Expr} {te : TE} {es : List Expr} {t : TA} {pos : Pos}
theorem Zin {M : Model} {A : Around} {c : Code} {E : Value → Shared → Prop} {s : Shared} {x : Sem Value} {rest : List (Bool × Sem Value)} {Q : List Value → Shared → Prop}
  (h : PySem.wpAt M A c x (fun v s₁ => wpAny M A (spliced rest) (fun vs s₂ => Q (v :: vs) s₂) E s₁) E s) : PySem.wpAt M A c (spliced ((false, x) :: rest)) Q E s := by
 rw [spliced]
 refine PySem.wpAt_bind (PySem.wpAt_mono h (fun v s₁ h₁ => ?_) fun _ _ x => x)
 simp only [G3, if_false]
 exact PySem.wpAt_of_wpAny (wpAny_bind (wpAny_pure (wpAny_bind (wpAny_holding (wpAny_mono h₁ (fun vs s₂ h₂ => wpAny_pure h₂) fun _ _ x => x)))))
theorem Z80 {x1} (ha : PEa X b e te) (hr : PA X es t) (hs : starEach (e :: es) X.env = (false, eval e X.env) :: starEach es X.env := by rfl) : PEa X b (.Tuple (e :: es) x1 pos) (tTup (tCons te t)) := by
 refine ⟨fun pins s σ H Q I hq => ?_⟩
 have key : PySem.wpAt (model X.prog X.w) X.A (.func b X.env) (spliced (backTo pos (starEach (e :: es) X.env))) (fun us s1 => us.length ≤ sizeLine ∧ EP X pins σ Q (.ref s1.heap.objs.size) { s1 with heap := s1.heap.push { cls := .type "tuple", data := .seq us.toArray } }) X.xe s := by
  rw [hs]
  refine Zin (thnA (ha.run pins s σ H _ I hq) fun u s1 ⟨x, H1, I1, r1, q1⟩ => ?_)
  refine thn (hr.run pos pins s1 σ H1 _ I1 q1) fun us s2 ⟨xs, H2, I2, r2, z, q2⟩ => ⟨by
   have := r2.length
   rw [Qe] at z ⊢
   omega, ?_⟩
  have hf : H2 s2.heap.objs.size = none := I2.hok.fresh (Qu _)
  have r3 : Vals (x :: xs) (u :: us) := .cons r1 r2
  refine ⟨.ref s2.heap.objs.size, upd H2 s2.heap.objs.size (.tup (x :: xs)), I2.laid (t' := s2.toks) (fun b u e => Heap.get?_push_of_some _ e) (Qu _) ?_, rfl, q2 _ hf⟩
  exact ⟨z, u :: us, r3, ⟨_, Heap.get?_push_size _ rfl, rfl, _, rfl⟩⟩
 rw [arm_eval_Tuple]
 exact PySem.wpAt_bind (PySem.wpAt_of_wpAny (wpAny_standAt (PySem.wpAt_bind (PySem.wpAt_mono key (fun vs s₁ h₁ => PySem.wpAt_of_wpAny (wpAny_newTuple h₁.2 h₁.1)) fun _ _ e => e))))
theorem Z8z {tg : Expr} {g : TG} (he : PEa X b e te) (hg : PG X tg g) (hs : swapsWithSole [tg] e pos.line X.env = pure false := by rfl) (hw : swappedStores [tg] e X.env = pure none := by rfl)
  (h1 : (assignEach [tg] X.env).map (·.2) = [assign tg X.env] := by rfl) : PSa X b (.Assign [tg] e pos) (tAsg te g) := by
 refine ⟨fun pins s σ H D I h => ?_⟩
 rw [exec_Assign_arm]
 refine PySem.wpAt_bind (PySem.wpAt_of_wpAny (wpAny_standAt ?_))
 rw [hs]
 refine PySem.wpAt_bind (PySem.wpAt_of_wpAny (wpAny_pure ?_))
 rw [if_neg (by decide)]
 refine PySem.wpAt_bind (thnA (he.run pins s σ H _ I h) fun v s1 ⟨x, H1, I1, r1, q1⟩ => ?_)
 rw [hw]
 refine PySem.wpAt_bind (PySem.wpAt_of_wpAny (wpAny_pure ?_))
 rw [h1]
 show PySem.wpAt (model X.prog X.w) X.A (.func b X.env) (do assignAll v [assign tg X.env]; pure Flow.next) _ _ s1
 exact PySem.wpAt_of_wpAny (wpAny_bind (thn (hg.run pins s1 σ H1 x v _ I1 r1 q1) fun _ s2 q => wpAny_pure q))
end
def tNever : TS := fun _ _ _ => False
theorem ps_never {X : Cx} {st : Stmt} : PS X st tNever := ⟨fun pins s σ H D I h => h.elim⟩
def Zly (n : Nat) (sp : Sp) : Sp := fun vs H Q E => ∃ ws rest, vs = ws ++ rest ∧ ws.length = n ∧ rest.length ≤ sizeLine ∧ ∀ p, H p = none → sp (ws ++ [V.ref p]) (upd H p (.tup rest)) Q E
theorem FunD.star {P : Program} {w : World} {K : PySem.W.Frag} {mg : Str → Option Value} {base : Heap} {x qual : Str} {params : Arguments} {body : List Stmt} {scope : Scope} {f : Addr} {fd : FuncData} {CX : CXT} {N ps : List Str} {pv : Str} {k : Nat} {sp : Sp}
  (F : FunD K x qual params body scope [] [] f fd) (S : FnScope N (ps ++ [pv]) scope) (hCX : StX.CXUp CX)
  (hb : ∀ (kV doc pm : Value) (an : Option Addr) (cdv ct : Value) (us rest : List Value), us.length = ps.length → bindArgs (PySem.W.fnOf x qual params body scope .none kV doc pm an cdv ct) ⟨us ++ rest, []⟩ = (newTuple rest >>= fun t => pure (ps.zip us ++ [(pv, t)])))
  (hbody : ∀ (cdv : Value) (A : Around) (outer : List Env) (s : Shared) (H : Hp) (vs : List V) (Q : VK) (E : XK), Room k (A.deeper (envOfC qual scope s.heap.objs.size f cdv)) → sp vs H Q E →
   ∃ t, PSs (cxOf CX P w K mg base N qual scope f cdv A outer s H E) body t ∧ t { nx := fun _ H' => Q .non H', rt := Q } (L2.start N vs) H) : FnR P w K mg base CX (k + 1) f (Zly ps.length sp) := by
 obtain ⟨oc, od, dV, kV, doc, pm, an, cdv, ct, osl, rfl, lk, hcd, hD, hK⟩ := F.ex
 rcases hD with ⟨_, rfl⟩ | ⟨e, _⟩
 ·exact StX.fn_star lk hcd S hCX (hb kV doc pm an cdv ct) fun A outer s H vs Q E hr hsp => hbody cdv A outer s H vs Q E hr hsp
 ·exact absurd rfl e
def Zhj (C : Addr) (sp : Sp) (E : XK) (tf : TE) (t : TA) : TE := fun σ H Q => tf σ H fun y H1 => y = .ref C ∧ t σ H1 fun vs H2 => ∀ x dx, H2 x = none → H2 dx = none → dx ≠ x →
 sp (V.ref x :: vs) (upd (upd H2 dx (.own x)) x (.ins C dx [])) (fun v H3 => v = .non ∧ Q (.ref x) H3) E
section
variable {X : Cx} {CX : CXT} {k : Nat} {f C : Addr} {sp : Sp} {E : XK} {e fe : Expr} {es : List Expr} {tf : TE} {t : TA} {pos : Pos}
theorem Zxe (hf : PE X fe tf) (M : Mk X.K C f) (F : FnR X.prog X.w X.K X.mg X.base CX k f sp) (hr : Room (k + 1) X.A) (hx : Passes CX X E) (ha : PA X (e :: es) t)
  (ht : eval (.Call fe (e :: es) [] pos) X.env = (do callWith pos (← eval fe X.env) [] (backTo pos (starEach (e :: es) X.env)) (backToKw pos (keywordEach [] X.env))) := by rfl)
  (he : starEach (e :: es) X.env = (false, eval e X.env) :: starEach es X.env := by rfl) (hpl : (backTo pos (starEach es X.env)).any (·.1) = false := by rfl) : PE X (.Call fe (e :: es) [] pos) (Zhj C sp E tf t) := by
 refine ⟨fun pins s σ H Q I h => ?_⟩
 refine PyProof.Rows.Call_ (thn (hf.run pins s σ H _ I h) fun u s1 ⟨y, H1, I1, ry, ey, q⟩ => ?_) ht
 subst ey
 obtain rfl : u = Value.ref C := ry
 refine PySem.W.callWith_K (h₀ := X.base) I1.ok.mod.kin M.kp (thn (ha.run pos pins s1 σ H1 _ I1 q) fun us s2 ⟨vs, H2, I2, r, q2⟩ => ⟨I2.kIn, ?_⟩) he hpl
 exact StX.run_makeR M F hr hx I2 r q2
theorem Z09 (hf : PE X fe tf) (M : Mk X.K C f) (F : FnR X.prog X.w X.K X.mg X.base CX k f sp) (hr : Room (k + 1) X.A) (hx : Passes CX X E) (ha : PA X (e :: es) t)
  (ht : eval (.Call fe (e :: es) [] pos) X.env = (do callWith pos (← eval fe X.env) [] (backTo pos (starEach (e :: es) X.env)) (backToKw pos (keywordEach [] X.env))) := by rfl)
  (he : starEach (e :: es) X.env = (false, eval e X.env) :: starEach es X.env := by rfl) (hst : (backTo pos (starEach es X.env)).any (·.1) = true := by rfl) : PE X (.Call fe (e :: es) [] pos) (Zhj C sp E tf t) := by
 refine ⟨fun pins s σ H Q I h => ?_⟩
 refine PyProof.Rows.Call_ (thn (hf.run pins s σ H _ I h) fun u s1 ⟨y, H1, I1, ry, ey, q⟩ => ?_) ht
 subst ey
 obtain rfl : u = Value.ref C := ry
 refine PySem.W.callWith_S2 (h₀ := X.base) I1.ok.mod.kin M.kp (thn (ha.run pos pins s1 σ H1 _ I1 q) fun us s2 ⟨vs, H2, I2, r, q2⟩ => ⟨I2.kIn, ?_⟩) he hst
 exact StX.run_makeR M F hr hx I2 r q2
end
section
variable {X : Cx} {CX : CXT} {k : Nat} {f C : Addr} {fd : FuncData} {ps : List Str} {sp : Sp} {E : XK}
theorem Z0y {pins : List (Addr × Obj)} {σ : L2.St} {H : Hp} {s : Shared} {Q : VK} {us : List Value} {vs : List V} (F : FnOk X.prog X.w X.K X.mg X.base CX k f fd ps sp) (hr : Room (k + 1) X.A) (hb : Binds X.K fd ps []) (hx : Passes CX X E)
  (I : Inv X pins σ H s) (r : Vals vs us) (h : sp vs H Q E) : wpAny (model X.prog X.w) X.A.in1 (call (.ref f) us) (EP X pins σ Q) X.xe s := by
 have hl : us.length = ps.length := by rw [← r.length]; exact F.len _ _ _ _ h
 have hbd := hb s us I.kIn (by rw [Qx]; exact hl)
 rw [Qx] at hbd
 refine wpAny_call (codeAny_mono (F.run X.A.in1 X.stack s H ⟨us, []⟩ us vs Q E hr.in1 I.env0.in1 hbd r h) fun r s' hq => ?_)
 cases r with
 | error e => exact hx pins σ H s e s' I hq
 | ok fl =>
  cases fl with
  | ret u => exact I.after hq
  | next => exact False.elim hq
  | brk => exact False.elim hq
  | cont => exact False.elim hq
theorem Z2c {M : Model} {A : Around} {E : Value → Shared → Prop} {s : Shared} {K : PySem.W.Frag} {x C : Addr} {ox : Obj} {od : Option Obj} {name : Str} {id : String} {args : List Value} {Q : Option Value → Shared → Prop} (KI : K.In s.heap) (I : PySem.W.InstAt s.heap x ox C od)
  (hs : PySem.W.findIn K (.ref C) name = some (some (.builtin id))) (hbd : bindSpecial (.builtin id) (.ref x) = pure (.builtin id, [.ref x]))
  (h : wpAny M A (call (.builtin id) (.ref x :: args)) (fun v => Q (some v)) E s) : wpAny M A (callSpecialIfBound? (.ref x) name args) Q E s := by
 simp only [callSpecialIfBound?, bindSpecialIfBound?]
 refine wpAny_holding (wpAny_bind (wpAny_bind (wpAny_bind (I.type.here ((PySem.W.looks_findIn KI hs).here ?_)))))
 simp only [hbd]
 refine wpAny_bind (wpAny_askSetting (wpAny_ite ?_))
 have fin : wpAny M A (call (.builtin id) ([.ref x] ++ args) >>= fun v => pure (some v)) Q E s := wpAny_bind (wpAny_mono h (fun v s' h' => wpAny_pure h') fun _ _ h' => h')
 split
 ·exact wpAny_bind (wpAny_pure (wpAny_pure fin))
 ·exact wpAny_tryCatch (wpAny_bind (wpAny_pure (wpAny_pure fin)))
structure NeC (K : PySem.W.Frag) (C : Addr) : Prop where
 ne : PySem.W.findIn K (.ref C) "__ne__" = some (some (.builtin "object.__ne__"))
 ob : PySem.W.subIn K (.ref C) (.type "object") = some true
def neB (K : PySem.W.Frag) (C : Addr) : Bool := eqO (PySem.W.findIn K (.ref C) "__ne__") (some (some (.builtin "object.__ne__"))) && decide (PySem.W.subIn K (.ref C) (.type "object") = some true)
theorem Ych {K : PySem.W.Frag} {C : Addr} (h : neB K C = true) : NeC K C := by
 obtain ⟨h1, h2⟩ := ba h
 exact ⟨eqO_ok h1, of_decide_eq_true h2⟩
def rNeI (C : Addr) (sp : Sp) (E : XK) : R2 := fun x y H Q => ∃ a b dx dy fs gs, x = .ref a ∧ y = .ref b ∧ H a = some (.ins C dx fs) ∧ H b = some (.ins C dy gs) ∧ sp [.ref a, .ref b] H (fun v H' => ∃ k, v = .bl k ∧ Q (.bl (!k)) H') E
theorem Z6v (F : FnOk X.prog X.w X.K X.mg X.base CX k f fd ps sp) (hr : Room (k + 1) X.A) (hm : Meth X.K C "__eq__" f) (hn : NeC X.K C) (hb : Binds X.K fd ps []) (hx : Passes CX X E) : OpR X (compareOp .NotEq) (rNeI C sp E) := by
 intro pins s σ H x y v u Q I rx ry h
 obtain ⟨a, b, dx, dy, fs, gs, rfl, rfl, ha, hb', hsp⟩ := h
 cases rx
 cases ry
 obtain ⟨mA, J, _⟩ := ins_get I.hok ha
 obtain ⟨mB, J', _⟩ := ins_get I.hok hb'
 obtain ⟨od, J, _⟩ := J.look
 obtain ⟨od', J', _⟩ := J'.look
 have hu : X.A.units + 1 < cLine := by have := hr.un; omega
 have call1 := Z0y (us := [.ref a, .ref b]) (vs := [.ref a, .ref b]) F hr hb hx I (.cons rfl (.cons rfl .nil)) hsp
 have inst : PySem.W.Looks (model X.prog X.w) s.heap (isInstance (.ref a) (.type "object")) true := J.type.andThen (PySem.W.looks_subIn I.kIn hn.ob)
 have entry : wpAny (model X.prog X.w) X.A.in1 (Builtin.«object.__ne__» ⟨[.ref a, .ref b], []⟩) (fun fin s' => ∃ k, fin = .done (.ret (.bool (!k))) ∧ EP X pins σ Q (.bool (!k)) s') X.xe s := by
  unfold Builtin.«object.__ne__»
  repeat (first
   | with_reducible refine wpAny_cRoomFor hu ?_
   | (refine wpAny_bind (m := callSpecialIfBound? (.ref a) (Str.ofString "__eq__") [.ref b])
       (PySem.W.ifBound_K I.kIn J hm.at_ hm.fn (wpAny_mono call1 (fun r s' hr => by
         obtain ⟨z, H', I', rz, k, rfl, q⟩ := hr
         cases rz
         have hq : ∃ k', (Fin.done (.ret (.bool (!k))) : PySem.Fin) = .done (.ret (.bool (!k'))) ∧ EP X pins σ Q (.bool (!k')) s' := ⟨k, rfl, .bl (!k), H', I', rfl, q⟩
         repeat (first | exact hq | exact wpAny_pure hq | exact wpAny_truthy_bool hq | (refine wpAny_bind (m := truthy (.bool _)) (wpAny_truthy_bool ?_)) | wp_step)) fun _ _ e => e)))
   | wp_step)
 have tc : wpAny (model X.prog X.w) X.A (tryCompare (.ref a) "__ne__" (.ref b)) (fun r s' => ∃ v, r = some v ∧ EP X pins σ Q v s') X.xe s := by
  unfold tryCompare
  refine wpAny_bind (Z2c I.kIn J hn.ne (PySem.F.slot_enumerate_ne.bind _) (wpAny_call (codeAny_call_builtin PySem.F.slot_enumerate_ne.plain PySem.F.cmpEntry_ne (@PySem.W.check_slot (model X.prog X.w) _ _ _ "object.__ne__" "object" "__ne__" (.ref a) [.ref b] [] _ PySem.F.cmpKind_ne PySem.F.cmpSplit_ne inst (PySem.F.cmpArgs_ne _ _) ?_))))
  refine wpAny_mono entry (fun v s' hv => ?_) fun _ _ e => e
  obtain ⟨k, rfl, hq⟩ := hv
  first | exact ⟨_, rfl, wpAny_pure ⟨_, rfl, hq⟩⟩ | exact wpAny_pure ⟨_, rfl, hq⟩ | exact ⟨_, rfl, hq⟩
 show wpAny (model X.prog X.w) X.A (richCompare .NotEq (.ref a) (.ref b)) (EP X pins σ Q) X.xe s
 unfold richCompare
 simp only [oneThing_ref]
 refine wpAny_holding (wpAny_bind (wpAny_cRoomFor (Nat.lt_of_succ_lt hu) ?_))
 refine wpAny_bind (J.type.here (wpAny_bind (J'.type.here ?_)))
 rw [show (Value.ref C != Value.ref C) = false from by simp]
 simp only [G3, if_false]
 refine wpAny_bind (wpAny_pure ?_)
 simp only [G3, if_false]
 refine wpAny_bind (wpAny_mono tc (fun r s' z => ?_) fun _ _ e => e)
 obtain ⟨v, rfl, hq⟩ := z
 exact wpAny_pure hq
theorem Yab (F : FnOk X.prog X.w X.K X.mg X.base CX k f fd ps sp) (hr : Room (k + 1) X.A) (hm : Meth X.K C "__len__" f) (hb : Binds X.K fd ps []) (hx : Passes CX X E) :
  CallR X (.builtin "len") (fun xs H Q => ∃ a dx fs, xs = [.ref a] ∧ H a = some (.ins C dx fs) ∧ sp [.ref a] H (fun v H' => ∃ n : Int, v = .int n ∧ (0 ≤ n ∧ n < 2 ^ 63) ∧ Q (.int n) H') E) := by
 intro pins s σ H xs us Q I r h
 obtain ⟨a, dx, fs, rfl, ha, hsp⟩ := h
 obtain rfl := Vals.ref1 r
 obtain ⟨mA, J, _⟩ := ins_get I.hok ha
 obtain ⟨od, J, _⟩ := J.look
 obtain ⟨m, hF⟩ := I.fr
 refine PySem.W.len_K hF I.ok.mod.kin J hm.at_ hm.fn (wpAny_mono (Z0y (us := [.ref a]) (vs := [.ref a]) F hr hb hx I (.cons rfl .nil) hsp) (fun v s' hv => ?_) fun _ _ e => e)
 obtain ⟨z, H', I', rz, n, rfl, hn, q⟩ := hv
 obtain ⟨t, rfl⟩ := rz
 exact ⟨hn, .int n, H', I'.tok _, ⟨_, rfl⟩, q⟩
end
def cmAd (K : PySem.W.Frag) (p : Str × Option Str) : Addr := He5.wf K (ga K p.1) "classmethod" (p.2.getD "")
def fdAt (K : PySem.W.Frag) (a : Addr) : FuncData := match K.lookup a with
 | some ⟨_, _, .func fd, _⟩ => fd
 | _ => default
def valM (d : DefD) : He5.FnW := some (d.name, d.qual, d.params, .stmts d.body, d.scope, mainGlobals, [], builtinsNs)
def toA (d : DefD) : He5.DefA := ⟨fun K => cmAd K d.at_, d.name, d.qual, d.params, d.body, d.scope, d.dfl, d.kwd⟩
def cmB (K : PySem.W.Frag) (d : DefD) : Bool := (toA d).ok K && (He5.wrapB K (ga K d.at_.1) "classmethod" "classmethod.__get__" (d.at_.2.getD "") && PySem.W.fnIn K (cmAd K d.at_))
theorem Ygt {K : PySem.W.Frag} {x q : Str} {a : Arguments} {b : List Stmt} {sc : Scope} {dvs : List V} {kws : List (Str × V)} {f : Addr} (h : ∃ fd, FunD K x q a b sc dvs kws f fd) : FunD K x q a b sc dvs kws f (fdAt K f) := by
 obtain ⟨fd, F⟩ := h
 have e : fdAt K f = fd := by
  obtain ⟨oc, od, dV, kV, doc, pm, an, cdv, ct, osl, rfl, lk, _⟩ := F.ex
  unfold fdAt
  rw [lk]
 rw [e]
 exact F
theorem Z91 {K : PySem.W.Frag} {d : DefD} (e : He5.fnA K (cmAd K d.at_) = valM d) (c : cmB K d = true) : FunD K d.name d.qual d.params d.body d.scope (d.dvs K) (d.kws K) (cmAd K d.at_) (fdAt K (cmAd K d.at_)) :=
 Ygt (He5.DefA.funD (d := toA d) e (ba c).1)
theorem Ygz {K : PySem.W.Frag} {C m : Str} {d : DefD} (h : d.at_ = (C, some m)) (c : cmB K d = true) : ∃ p, CMet K (ga K C) (.type "type") m p (cmAd K d.at_) := by
 obtain ⟨_, c⟩ := ba c
 obtain ⟨h1, h2⟩ := ba c
 rw [h] at h1 h2 ⊢
 exact ⟨_, He5.cmet_of (m := m) h1 h2⟩
structure Zwf (fa : List Fa) (fn fs fm : List DefD) (ts : List Tab) (ex : PySem.W.Frag → Bool) (w : World) (K : PySem.W.Frag) : Prop where
 b : Yat fa fn fs ts ex w K
 m : (fm.map fun d => He5.fnA K (cmAd K d.at_)) = fm.map valM
theorem Zwf.at_ {fa : List Fa} {fn fs fm : List DefD} {ts : List Tab} {ex : PySem.W.Frag → Bool} {w : World} {K : PySem.W.Frag} (c : Zwf fa fn fs fm ts ex w K) (i : Nat) {d : DefD} (h : fm[i]? = some d) : He5.fnA K (cmAd K d.at_) = valM d := by
 have e : (fm.map fun d => He5.fnA K (cmAd K d.at_))[i]? = (fm.map valM)[i]? := by rw [c.m]
 rw [Qn, Qn, h] at e
 exact Q0 e
def Yfm (o : Obj) : List Addr := refV o.cls ++ (match o.dict with | some d => [d] | none => []) ++
 (match o.data with
  | Data.seq its _ => List.flatMap refV its.toList
  | Data.dict es _ => List.flatMap (fun e => refV e.val) es.toList
  | Data.func fd => refV fd.code ++ refV fd.defaults ++ (refV fd.kwdefaults ++ List.map (fun x => x.snd) fd.closure)
  | Data.cls cd => cd.ns :: List.flatMap refV cd.mro
  | Data.fields vs => List.flatMap refV vs.toList
  | Data.cell (some v) => refV v
  | _ => [])
def metN (m a : Nat) : Bool := Nat.beq (Nat.land (Nat.shiftRight m a) 1) 1
noncomputable def insN {α : Type} (as : List Addr) (m : Nat) (l : List Addr) (k : Nat → List Addr → α) : α :=
 List.rec (motive := fun _ => Nat → List Addr → α) (fun m l => k m l) (fun a _ ih m l => HandSHeadRun.frNat a fun a => cond (metN m a) (ih m l) (HandSHeadRun.frNat (Nat.lor m (Nat.shiftLeft 1 a)) fun m => ih m (a :: l))) as m l
noncomputable def levN {α : Type} (g : Addr → Option Obj) (fs : List Addr) (m : Nat) (l : List Addr) (k : Nat → List Addr → α) : α :=
 List.rec (motive := fun _ => Nat → List Addr → α) (fun m l => k m l) (fun a _ ih m l => insN (match g a with | some o => Yfm o | none => []) m l ih) fs m l
noncomputable def Ygp (g : Addr → Option Obj) (n : Nat) (fs : List Addr) (m : Nat) (acc : List Addr) : List Addr :=
 Nat.rec (motive := fun _ => List Addr → Nat → List Addr → List Addr) (fun _ _ acc => acc) (fun _ ih fs m acc => levN g fs m [] fun m' nf => ih nf m' (acc ++ nf)) n fs m acc
noncomputable def asN (g : Addr → Option Obj) (n : Nat) : List Addr := Ygp g n [mainGlobals] (Nat.shiftLeft 1 mainGlobals) [mainGlobals] ++ [PySem.cStatics]
noncomputable def obsN (n : Nat) (fa : List Fa) (fn fs fm : List DefD) (ts : List Tab) (ex : PySem.W.Frag → Bool) (g : Addr → Option Obj) : ((AlT × Bool) × List FnS) × List He5.FnW :=
 (fun K : PySem.W.Frag => (((obsT fa fn ts K, ex K), fs.map fun d => fnS K d.at_), fm.map fun d => He5.fnA K (cmAd K d.at_))) (frG g (asN g n))
noncomputable def Z9w (n : Nat) (fa : List Fa) (fn fs fm : List DefD) (ts : List Tab) (ex : PySem.W.Frag → Bool) : PySem.W.Hook where
 α := ((AlT × Bool) × List FnS) × List He5.FnW
 obs := fun s => obsN n fa fn fs fm ts ex s.heap.get?
 val := fun w => (((valT fn ts w, true), fs.map valS), fm.map valM)
 says := fun w h => ∃ K : PySem.W.Frag, K.In h ∧ Zwf fa fn fs fm ts ex w K
 of := fun _ _ e => ⟨_, frG_in, ⟨⟨⟨congrArg (fun z : ((AlT × Bool) × List FnS) × List He5.FnW => z.1.1.1) e, congrArg (fun z : ((AlT × Bool) × List FnS) × List He5.FnW => z.1.1.2) e⟩, congrArg (fun z : ((AlT × Bool) × List FnS) × List He5.FnW => z.1.2) e⟩, congrArg (fun z : ((AlT × Bool) × List FnS) × List He5.FnW => z.2) e⟩⟩
 keeps := fun _ _ _ ⟨K, hK, c⟩ k => ⟨K, PySem.W.Frag.In.keeps hK k, c⟩
theorem Z87 {n : Nat} {fa : List Fa} {fn fs fm : List DefD} {ts : List Tab} {ex : PySem.W.Frag → Bool} {g : Addr → Option Obj} {s : Shared} (h : ∀ a, g a = s.heap.get? a) : obsN n fa fn fs fm ts ex g = (Z9w n fa fn fs fm ts ex).obs s := by
 have e : g = s.heap.get? := funext h
 subst e
 rfl
noncomputable def KN (n : Nat) (s : PySem.W.SharedT) : PySem.W.Frag := frG (HandSHeadRun.getT s) (asN (HandSHeadRun.getT s) n)
def Run1 (r : PySem.W.OpenRow) (q : Program) (n : Nat) (fa : List Fa) (fn : List DefD) (ts : List Tab) (M : Nat) (loose : List Str) (w : World) : Prop := ∀ os : OsState,
 Option.map (fun s => ((HandSHeadRun.looksF r.prog (PySem.W.boot_heap w.params) s.abs, HandSHeadRun.seenQ q loose (importedModules r.prog.main.body) (fun s => PySem.W.xlAt q [] s && PySem.W.recOk r.records s) s.abs), obsT fa fn ts (KN n s))) (HandSHeadRun.endF (HandSHeadRun.stepQ (HandSHeadRun.denQ HandSHeadRun.tabQ) r.prog w) M r.prog w os) = some ((true, PySem.W.openGood q loose), valT fn ts w)
def Run2 (r : PySem.W.OpenRow) (n : Nat) (fs fm : List DefD) (ex : PySem.W.Frag → Bool) (M : Nat) (w : World) : Prop := ∀ os : OsState,
 Option.map (fun s => (ex (KN n s), (fs.map fun d => fnS (KN n s) d.at_), fm.map fun d => He5.fnA (KN n s) (cmAd (KN n s) d.at_))) (HandSHeadRun.endF (HandSHeadRun.stepQ (HandSHeadRun.denQ HandSHeadRun.tabQ) r.prog w) M r.prog w os) = some (true, fs.map valS, fm.map valM)
theorem Z0z {r : PySem.W.OpenRow} {q : Program} {n : Nat} {fa : List Fa} {fn fs fm : List DefD} {ts : List Tab} {ex : PySem.W.Frag → Bool} {M : Nat} {loose : List Str} {w : World} (h1 : Run1 r q n fa fn ts M loose w) (h2 : Run2 r n fs fm ex M w) :
  HandSHeadRun.RunEq r q (Z9w n fa fn fs fm ts ex) (fun s => obsN n fa fn fs fm ts ex (HandSHeadRun.getT s)) M loose w := by
 intro os
 have a := h1 os
 have b := h2 os
 cases e : HandSHeadRun.endF (HandSHeadRun.stepQ (HandSHeadRun.denQ HandSHeadRun.tabQ) r.prog w) M r.prog w os with
 | none => rw [e] at a; cases a
 | some s =>
  rw [e] at a b
  have a := Q0 a
  have b := Q0 b
  have a1 := congrArg (fun z => z.1.1) a
  have a2 := congrArg (fun z => z.1.2) a
  have a3 := congrArg (fun z => z.2) a
  have b1 := congrArg (fun z => z.1) b
  have b2 := congrArg (fun z => z.2.1) b
  have b3 := congrArg (fun z => z.2.2) b
  show some _ = some _
  congr 1
  dsimp only at a1 a2 a3 b1 b2 b3
  show (_, _, (((obsT fa fn ts (KN n s), ex (KN n s)), fs.map fun d => fnS (KN n s) d.at_), fm.map fun d => He5.fnA (KN n s) (cmAd (KN n s) d.at_))) = (true, _, (((valT fn ts w, true), fs.map valS), fm.map valM))
  rw [a1, a2, a3, b1, b2, b3]
theorem hu65 {A : Around} {k : Nat} (hr : Room k A) : A.units + 65 < cLine := by have := hr.un; omega
section
variable {X : Cx}
def Zwt : V → List V → Hp → VK → Prop := fun x xs H Q => ∃ a b : List Nat, x = sv a ∧ xs = [sv b] ∧ b ≠ [] ∧ b.all (· < 256) = true ∧ a.length + 2 ≤ sizeLine ∧ ∀ p, H p = none → Q (.ref p) (upd H p (.lst ((TL.spl b 0 [] a).map sv)))
theorem Z4o : MtR X "str.split" Zwt := by
 intro pins s σ H x xs v us Q I rx rv h
 obtain ⟨a, b, rfl, rfl, hb, hk, hl, q⟩ := h
 refine mt_split pins s σ H _ _ v us Q I rx rv ⟨S a, S b, rfl, rfl, ?_, hl, ?_⟩
 ·cases b with
  | nil => exact absurd rfl hb
  | cons c r => rfl
 ·intro p hp
  have e : Txt.split (S a) (S b) = (TL.spl b 0 [] a).map S := SX.split_S hb hk
  rw [e, Qq]
  exact q p hp
def Zyo (K : PySem.W.Frag) (b : Bool) : R2 := fun x y H Q => ∃ d ds, Dp K H x d ∧ (Dp K H y (.list ds) ∨ Dp K H y (.tuple ds)) ∧ SeqAt.shaped d = true ∧ SeqAt.shaped (.list ds) = true ∧ Q (.bl (b != ds.any fun z => PyData.eqv z d)) H
theorem Zyp (hu : X.A.units + 65 < cLine) : OpR X (compareOp .NotIn) (Zyo X.K true) := by
 intro pins s σ H x y v u Q I rx ry h
 obtain ⟨d, ds, hd, he, sd, se, q⟩ := h
 rw [G9] at q
 obtain ⟨as, r1⟩ := Dp.reads I d x v hd rx
 rcases he with he | he
 ·obtain ⟨bs, r2⟩ := Dp.reads I (.list ds) y u he ry
  exact SeqAt.notIn_list_reads r2 r1 (SeqAt.canLay_of_shaped se) (SeqAt.canLay_of_shaped sd) (room_in_shaped sd hu) ⟨.bl _, H, I, rfl, q⟩
 ·obtain ⟨bs, r2⟩ := Dp.reads I (.tuple ds) y u he ry
  exact SeqAt.notIn_tuple_reads r2 r1 (SeqAt.canLay_of_shaped se) (SeqAt.canLay_of_shaped sd) (room_in_shaped sd hu) ⟨.bl _, H, I, rfl, q⟩
end
def lkT (kvs : List (List Nat × Int)) (z : List Nat) : Option Int := (kvs.find? fun q => decide (q.1 = z)).map (·.2)
def TabD (K : PySem.W.Frag) (w : World) (a : Addr) (kvs : List (List Nat × Int)) : Prop := ∃ es n, KDict K w a es n ∧ ∀ z : List Nat, (∀ i, lkT kvs z = some i → ∃ u, PySem.W.nsIn K a (S z) = some (some u) ∧ RelV (.int i) u) ∧ (lkT kvs z = none → PySem.W.nsIn K a (S z) = some none)
theorem Z1w {e : DictEntry} {k : Str} {i : Int} (h : He.keyOf e = some (k, i)) : ∃ t, e.key = .str k t := by
 unfold He.keyOf at h
 split at h
 ·rename_i x t q
  have h4 := Q0 h
  obtain ⟨h5, h6⟩ := Prod.mk.inj h4
  exact ⟨t, by rw [q, h5]⟩
 ·cases h
theorem Zri {P : Params} : ∀ {l : List DictEntry} {ks : List Str}, l.map He.keyOf = keysIn P ks → ∀ e ∈ l, ∃ k ∈ ks, ∃ t, e.key = .str k t
 | [], _, _, e, he => nomatch he
 | d :: r, [], h, _, _ => by cases h
 | d :: r, k :: ks, h, e, he => by
  have h1 : He.keyOf d :: r.map He.keyOf = some (k, PyData.keyHash P k) :: keysIn P ks := h
  injection h1 with h2 h3
  rcases Qg.mp he with rfl | he
  ·obtain ⟨t, q⟩ := Z1w h2
   exact ⟨k, Qo, t, q⟩
  ·obtain ⟨k', hk, q⟩ := Zri h3 e he
   exact ⟨k', Qk _ hk, q⟩
theorem Ya3 {K : PySem.W.Frag} {w : World} {a : Addr} {kvs : List (List Nat × Int)} (h : dicW K a = some (keysIn w.params (kvs.map fun q => S q.1))) (hv : valsB K a (kvs.map fun q => (S q.1, Dv.int q.2)) = true) : TabD K w a kvs := by
 obtain ⟨es, n, D⟩ := dicW_ok h
 refine ⟨es, n, D, fun z => ⟨fun i hi => ?_, fun hn => ?_⟩⟩
 ·obtain ⟨q, hq, e⟩ : ∃ q ∈ kvs, q = (z, i) := by
   unfold lkT at hi
   cases hf : kvs.find? fun q => decide (q.1 = z) with
   | none => rw [hf] at hi; cases hi
   | some q =>
    rw [hf] at hi
    have h1 := List.find?_some hf
    have h2 := List.mem_of_find?_eq_some hf
    refine ⟨q, h2, ?_⟩
    have e1 : q.1 = z := of_decide_eq_true h1
    have e2 : q.2 = i := Q0 hi
    rw [← e1, ← e2]
  subst e
  obtain ⟨u, h1, h2⟩ := valsB_ok hv (q := (S z, Dv.int i)) (Qz.mpr ⟨(z, i), hq, rfl⟩)
  exact ⟨u, h1, h2⟩
 ·have hkeys : es.toList.map He.keyOf = keysIn w.params (kvs.map fun q => S q.1) := by
   unfold dicW at h
   rw [D.at_] at h
   simp only at h
   split at h
   ·exact Q0 h
   ·cases h
  have hno : ∀ e ∈ es.toList, e.key.isStr (S z) = false := fun e he => by
   obtain ⟨k, hk, t, q⟩ := Zri hkeys e he
   obtain ⟨q', hq', rfl⟩ := Qz.mp hk
   rw [q]
   have hne : ¬ q'.1 = z := fun ez => by
    unfold lkT at hn
    have : (kvs.find? fun q => decide (q.1 = z)) = none := by
     cases hf : kvs.find? fun q => decide (q.1 = z) with
     | none => rfl
     | some x => rw [hf] at hn; cases hn
    have := List.find?_eq_none.mp this q' hq'
    exact this (decide_eq_true ez)
   show (S q'.1 == S z) = false
   rw [show (S q'.1 == S z) = decide (q'.1 = z) from SX.S_beq_eq]
   exact decide_eq_false hne
  have href : es.toList.any (·.refKey) = false := by
   rw [List.any_eq_false]
   intro e he
   obtain ⟨k, hk, t, q⟩ := Zri hkeys e he
   unfold DictEntry.refKey
   rw [q]
   simp
  unfold PySem.W.nsIn
  rw [D.at_]
  simp only
  have hf : es.toList.find? (·.key.isStr (S z)) = none := List.find?_eq_none.mpr fun e he => by rw [hno e he]; simp
  rw [hf]
  simp only [href]
  rfl
section
variable {X : Cx} {a : Addr} {kvs : List (List Nat × Int)}
def Zqt (kvs : List (List Nat × Int)) (a : Addr) : R2 := fun x y H Q => ∃ z, x = sv z ∧ y = .ref a ∧ Q (.bl (!(lkT kvs z).isSome)) H
theorem Z1c (h : TabD X.K X.w a kvs) : OpR X (compareOp .NotIn) (Zqt kvs a) := by
 obtain ⟨es, n, D, hv⟩ := h
 intro pins s σ H x y v u Q I rx ry ⟨z, ex, ey, q⟩
 cases hl : lkT kvs z with
 | none =>
  rw [hl] at q
  exact op_notIn_kd D pins s σ H _ _ v u Q I rx ry ⟨S z, none, ex, ey, (hv z).2 hl, q⟩
 | some i =>
  rw [hl] at q
  obtain ⟨u', h1, h2⟩ := (hv z).1 i hl
  exact op_notIn_kd D pins s σ H _ _ v u Q I rx ry ⟨S z, some u', ex, ey, h1, q⟩
def rIxT (kvs : List (List Nat × Int)) (a : Addr) : R2 := fun x y H Q => ∃ z i, x = .ref a ∧ y = sv z ∧ lkT kvs z = some i ∧ Q (.int i) H
theorem ix_T (h : TabD X.K X.w a kvs) : IxR X (rIxT kvs a) := by
 obtain ⟨es, n, D, hv⟩ := h
 intro value slice pins s σ H x y v u Q I rx ry ⟨z, i, ex, ey, hl, q⟩ hs
 obtain ⟨u', h1, h2⟩ := (hv z).1 i hl
 exact ix_kdict value slice pins s σ H x y v u Q I rx ry ⟨a, S z, .int i, ex, ey, ⟨es, n, u', D.at_, D.lit, h1, h2⟩, q⟩ hs
end
def Znu (w : World) (b : Bool) : World := { w with params := { w.params with followText := fun s => if s = "special-get-raises" then b else w.params.followText s } }
theorem Zxb {w : World} {b : Bool} (h : w.params.followText "special-get-raises" = b) : Znu w b = w := by
 obtain ⟨dr, P⟩ := w
 obtain ⟨a1, a2, a3, a4, a5, f, a6⟩ := P
 have e : (fun s => if s = "special-get-raises" then b else f s) = f := by
  funext s
  by_cases hs : s = "special-get-raises"
  ·rw [if_pos hs, hs]; exact h.symm
  ·rw [if_neg hs]
 unfold Znu
 simp only [e]
abbrev NUMS : List (List Nat × Int) := [([49], 1), ([50], 2), ([51], 3)]
abbrev At : Type := Str × Option Str
def dD (s : Stmt) (a : At) (n q : Str) (dfl : List Dv := []) (kwd : List (Str × Dv) := []) : DefD := ⟨a, n, q, defArgs s, defBody s, defScope s, dfl, kwd⟩
structure Es where
 sb : List (Str × DefD) := []
 xc : List Str := []
 bi : List Str := []
 kc : List (Str × Str × Bool) := []
 kt : List (String × String × Bool) := []
 co : List (Str × Str × Dv) := []
 ic : List Str := []
 cr : List Str := []
 cv : List (Str × Str × V) := []
 sg : List At := []
 su : List (Str × Str × Str × At) := []
 mb : List (Str × Str × At) := []
 ca : List (Str × At) := []
 ne : List Str := []
 sf : List Str := []
 e0 : List Str := []
 tb : List (Str × List (List Nat × Int)) := []
 em : List (Str × Str × Bool) := []
noncomputable def Es.ok (E : Es) (P : Program) (fm : List DefD) (K : PySem.W.Frag) : Bool :=
 E.sb.all (fun p => supB P K p.1 p.2) && (E.xc.all (fun c => Yax K (ga K c)) && (E.bi.all (fun c => Z7q K (ga K c)) && (E.kc.all (fun p => decide (PySem.W.kitOne K (.ref (ga K p.1)) (.ref (ga K p.2.1)) = some p.2.2)) &&
 (E.kt.all (fun p => decide (PySem.W.kitOne K (.type p.1) (.type p.2.1) = some p.2.2)) && (E.co.all (fun p => conB K p.1 p.2.1 p.2.2 && !PySem.W.copiedNames.contains p.2.1) && (E.ic.all (fun c => Yds K (ga K c)) && (E.cr.all (fun c => Z7n K (ga K c)) &&
 (E.cv.all (fun p => Yae K (ga K p.1) p.2.1 p.2.2) && (E.sg.all (fun p => decide (PySem.W.typeIn K (.ref (fAd K p)) = some (.type "function")) && PySem.W.fnIn K (fAd K p)) && (E.su.all (fun p => Zzu K (ga K p.1) (ga K p.2.1) p.2.2.1 (fAd K p.2.2.2)) &&
 (E.mb.all (fun p => Z9b K (ga K p.1) p.2.1 (fAd K p.2.2)) && (E.ca.all (fun p => Z23 K (ga K p.1) (fAd K p.2)) && (E.ne.all (fun c => neB K (ga K c)) && (E.sf.all (fun c => PySem.W.selfFirst K (ga K c)) && (E.e0.all (fun c => PySem.W.excIn K (ga K c) veBase "ValueError.__new__") &&
 (E.tb.all (fun p => valsB K (ga K p.1) (p.2.map fun q => (S q.1, Dv.int q.2))) && (E.em.all (fun p => decide (PySem.W.exmOne K (.ref (ga K p.1)) (.ref (ga K p.2.1)) = some p.2.2)) && fm.all (cmB K))))))))))))))))))
theorem Za1 {α : Type} {p : α → Bool} {l : List α} {i : Nat} {x : α} (h : l.all p = true) (e : l[i]? = some x) : p x = true := Q8.mp h x (Qp e)
structure Fc (P : Program) (fa : List Fa) (fn fs fm : List DefD) (ts : List Tab) (E : Es) (w : World) (K : PySem.W.Frag) (mg : Str → Option Value) : Prop where
 X : ∃ h, K.In h ∧ h.Ns mainGlobals mg
 c : Zwf fa fn fs fm ts (E.ok P fm) w K
section
variable {P : Program} {fa : List Fa} {fn fs fm : List DefD} {ts : List Tab} {E : Es} {w : World} {K : PySem.W.Frag} {mg : Str → Option Value} {x y m : Str} {d : DefD} {p : At} {b : Bool}
theorem Fc.f (T : Fc P fa fn fs fm ts E w K mg) (i : Nat) {f : Fa} (h : fa[i]? = some f) : f.ok K = true := T.c.b.c.t.d.fact i h
theorem Fc.g (T : Fc P fa fn fs fm ts E w K mg) (i : Nat) (h : fa[i]? = some (.glo x)) : mg x = some (.ref (ga K x)) := let ⟨_, X, G⟩ := T.X; glo_ok X G (T.f i h)
theorem Fc.n (T : Fc P fa fn fs fm ts E w K mg) (i : Nat) (h : fa[i]? = some (.free x)) : mg x = none := let ⟨_, X, G⟩ := T.X; free_ok X G (T.f i h)
theorem Fc.s (T : Fc P fa fn fs fm ts E w K mg) (i : Nat) (h : fa[i]? = some (.str x y)) : ∃ t, mg x = some (.str y t) := let ⟨_, X, G⟩ := T.X; str_ok X G (T.f i h)
theorem Fc.int (T : Fc P fa fn fs fm ts E w K mg) (i : Nat) {j : Int} (h : fa[i]? = some (.int x j)) : ∃ t, mg x = some (.int j t) := let ⟨_, X, G⟩ := T.X; int_ok X G (T.f i h)
theorem Fc.i (T : Fc P fa fn fs fm ts E w K mg) (i : Nat) (h : fa[i]? = some (.meth x m)) : PySem.W.findIn K (.ref (ga K x)) m = some (some (.ref (fAd K (x, some m)))) := eqO_ok (ba (T.f i h)).1
theorem Fc.ti (T : Fc P fa fn fs fm ts E w K mg) (i : Nat) (h : fa[i]? = some (.meth x m)) : PySem.W.typeIn K (.ref (fAd K (x, some m))) = some (.type "function") := beq_iff_eq.mp (ba (ba (T.f i h)).2).1
theorem Fc.me (T : Fc P fa fn fs fm ts E w K mg) (i : Nat) (h : fa[i]? = some (.meth x m)) : Meth K (ga K x) m (fAd K (x, some m)) := meth_ok (T.f i h)
theorem Fc.no (T : Fc P fa fn fs fm ts E w K mg) (i : Nat) (h : fa[i]? = some (.noat x m)) : PySem.W.findIn K (.ref (ga K x)) m = some none := eqO_ok (T.f i h)
theorem Fc.cl (T : Fc P fa fn fs fm ts E w K mg) (i : Nat) (h : fa[i]? = some (.cls x)) : Cls K (ga K x) := cls_ok (T.f i h)
theorem Fc.mk' (T : Fc P fa fn fs fm ts E w K mg) (i : Nat) (h : fa[i]? = some (.mkr x)) : Mk K (ga K x) (fAd K (x, some "__init__")) := mkr_ok (T.f i h)
theorem Fc.em (T : Fc P fa fn fs fm ts E w K mg) (i : Nat) (h : fa[i]? = some (.exm x y b)) : PySem.W.exmOne K (.ref (ga K x)) (.ref (ga K y)) = some b := exm_ok (T.f i h)
theorem Fc.F (T : Fc P fa fn fs fm ts E w K mg) (i : Nat) (h : fn[i]? = some d) : FunD K d.name d.qual d.params d.body d.scope (d.dvs K) (d.kws K) (fAd K d.at_) (fdOf K d.at_) := Ygs (T.c.b.c.t.d.def_ i h)
theorem Fc.all (T : Fc P fa fn fs fm ts E w K mg) : E.ok P fm K = true := T.c.b.c.more
theorem Fc.sb (T : Fc P fa fn fs fm ts E w K mg) (i : Nat) (h : E.sb[i]? = some (x, d)) (e : fs[i]? = some d) : FunS P K d.name d.qual d.params d.body d.scope (d.dvs K) (d.kws K) (fAd K d.at_) (fdOf K d.at_) (ga K x) := Z90 (T.c.b.at_ i e) (by have q := Za1 (ba T.all).1 h; exact q)
theorem Fc.xc (T : Fc P fa fn fs fm ts E w K mg) (i : Nat) (h : E.xc[i]? = some x) : XCls K (ga K x) := Z3u (by have q := Za1 (ba (ba T.all).2).1 h; exact q)
theorem Fc.bi (T : Fc P fa fn fs fm ts E w K mg) (i : Nat) (h : E.bi[i]? = some x) : Yeq K (ga K x) := Z3a (by have q := Za1 (ba (ba (ba T.all).2).2).1 h; exact q)
theorem Fc.kc (T : Fc P fa fn fs fm ts E w K mg) (i : Nat) (h : E.kc[i]? = some (x, y, b)) : PySem.W.kitOne K (.ref (ga K x)) (.ref (ga K y)) = some b := of_decide_eq_true (by have q := Za1 (ba (ba (ba (ba T.all).2).2).2).1 h; exact q)
theorem Fc.kt (T : Fc P fa fn fs fm ts E w K mg) (i : Nat) {s t : String} (h : E.kt[i]? = some (s, t, b)) : PySem.W.kitOne K (.type s) (.type t) = some b := of_decide_eq_true (by have q := Za1 (ba (ba (ba (ba (ba T.all).2).2).2).2).1 h; exact q)
theorem Fc.co (T : Fc P fa fn fs fm ts E w K mg) (i : Nat) {v : Dv} (h : E.co[i]? = some (x, y, v)) : ∃ u, Con K (ga K x) y (v.v K) u := by
 have q0 := Za1 (ba (ba (ba (ba (ba (ba T.all).2).2).2).2).2).1 h
 have q := ba q0
 exact conB_ok q.1 (by simpa using q.2)
theorem Fc.ic (T : Fc P fa fn fs fm ts E w K mg) (i : Nat) (h : E.ic[i]? = some x) : ICls K (ga K x) := Z5a (by have q := Za1 (ba (ba (ba (ba (ba (ba (ba T.all).2).2).2).2).2).2).1 h; exact q)
theorem Fc.cr (T : Fc P fa fn fs fm ts E w K mg) (i : Nat) (h : E.cr[i]? = some x) : CRead K (ga K x) (.type "type") := Z2x (by have q := Za1 (ba (ba (ba (ba (ba (ba (ba (ba T.all).2).2).2).2).2).2).2).1 h; exact q)
theorem Fc.cv (T : Fc P fa fn fs fm ts E w K mg) (i : Nat) {v : V} (h : E.cv[i]? = some (x, y, v)) : ∃ u, CVal K (ga K x) (.type "type") y v u := Z5q (by have q := Za1 (ba (ba (ba (ba (ba (ba (ba (ba (ba T.all).2).2).2).2).2).2).2).2).1 h; exact q)
theorem Fc.sg (T : Fc P fa fn fs fm ts E w K mg) (i : Nat) (h : E.sg[i]? = some p) : PySem.W.typeIn K (.ref (fAd K p)) = some (.type "function") := of_decide_eq_true (ba (by have q := Za1 (ba (ba (ba (ba (ba (ba (ba (ba (ba (ba T.all).2).2).2).2).2).2).2).2).2).1 h; exact q)).1
theorem Fc.si (T : Fc P fa fn fs fm ts E w K mg) (i : Nat) (h : E.sg[i]? = some p) : PySem.W.fnIn K (fAd K p) = true := (ba (by have q := Za1 (ba (ba (ba (ba (ba (ba (ba (ba (ba (ba T.all).2).2).2).2).2).2).2).2).2).1 h; exact q)).2
theorem Fc.t11 (T : Fc P fa fn fs fm ts E w K mg) : E.su.all (fun p => Zzu K (ga K p.1) (ga K p.2.1) p.2.2.1 (fAd K p.2.2.2)) = true ∧ E.mb.all (fun p => Z9b K (ga K p.1) p.2.1 (fAd K p.2.2)) = true ∧ E.ca.all (fun p => Z23 K (ga K p.1) (fAd K p.2)) = true ∧ E.ne.all (fun c => neB K (ga K c)) = true ∧
  E.sf.all (fun c => PySem.W.selfFirst K (ga K c)) = true ∧ E.e0.all (fun c => PySem.W.excIn K (ga K c) veBase "ValueError.__new__") = true ∧ E.tb.all (fun p => valsB K (ga K p.1) (p.2.map fun q => (S q.1, Dv.int q.2))) = true ∧ E.em.all (fun p => decide (PySem.W.exmOne K (.ref (ga K p.1)) (.ref (ga K p.2.1)) = some p.2.2)) = true ∧ fm.all (cmB K) = true := by
 have h := (ba (ba (ba (ba (ba (ba (ba (ba (ba (ba T.all).2).2).2).2).2).2).2).2).2).2
 exact ⟨(ba h).1, (ba (ba h).2).1, (ba (ba (ba h).2).2).1, (ba (ba (ba (ba h).2).2).2).1, (ba (ba (ba (ba (ba h).2).2).2).2).1, (ba (ba (ba (ba (ba (ba h).2).2).2).2).2).1, (ba (ba (ba (ba (ba (ba (ba h).2).2).2).2).2).2).1, (ba (ba (ba (ba (ba (ba (ba (ba h).2).2).2).2).2).2).2).1, (ba (ba (ba (ba (ba (ba (ba (ba h).2).2).2).2).2).2).2).2⟩
theorem Fc.su (T : Fc P fa fn fs fm ts E w K mg) (i : Nat) (h : E.su[i]? = some (x, y, m, p)) : Sup K (ga K x) (ga K y) m (fAd K p) := Zzt (by have q := Za1 T.t11.1 h; exact q)
theorem Fc.mb (T : Fc P fa fn fs fm ts E w K mg) (i : Nat) (h : E.mb[i]? = some (x, m, p)) : Meth K (ga K x) m (fAd K p) := Z4p (by have q := Za1 T.t11.2.1 h; exact q)
theorem Fc.ca (T : Fc P fa fn fs fm ts E w K mg) (i : Nat) (h : E.ca[i]? = some (x, p)) : StX.CallO K (ga K x) (fAd K p) := Z22 (by have q := Za1 T.t11.2.2.1 h; exact q)
theorem Fc.ne (T : Fc P fa fn fs fm ts E w K mg) (i : Nat) (h : E.ne[i]? = some x) : NeC K (ga K x) := Ych (by have q := Za1 T.t11.2.2.2.1 h; exact q)
theorem Fc.sf (T : Fc P fa fn fs fm ts E w K mg) (i : Nat) (h : E.sf[i]? = some x) : PySem.W.selfFirst K (ga K x) = true := by have q := Za1 T.t11.2.2.2.2.1 h; exact q
theorem Fc.e0 (T : Fc P fa fn fs fm ts E w K mg) (i : Nat) (h : E.e0[i]? = some x) : PySem.W.excIn K (ga K x) veBase "ValueError.__new__" = true := by have q := Za1 T.t11.2.2.2.2.2.1 h; exact q
theorem Fc.tb (T : Fc P fa fn fs fm ts E w K mg) (i : Nat) {kvs : List (List Nat × Int)} (h : E.tb[i]? = some (y, kvs)) (e : ts[i]? = some ((fun K => ga K y), kvs.map fun q => S q.1)) : TabD K w (ga K y) kvs := by
 have q : (ts.map fun t => dicW K (t.1 K))[i]? = (ts.map fun t => some (keysIn w.params t.2))[i]? := by
  have r := congrArg (fun z : AlT => z.2) T.c.b.c.t
  have r : (ts.map fun t => dicW K (t.1 K)) = ts.map fun t => some (keysIn w.params t.2) := r
  rw [r]
 rw [Qn, Qn, e] at q
 have r := Za1 T.t11.2.2.2.2.2.2.1 h
 exact Ya3 (Q0 q) r
theorem Fc.ex (T : Fc P fa fn fs fm ts E w K mg) (i : Nat) (h : E.em[i]? = some (x, y, b)) : PySem.W.exmOne K (.ref (ga K x)) (.ref (ga K y)) = some b := of_decide_eq_true (by have q := Za1 T.t11.2.2.2.2.2.2.2.1 h; exact q)
theorem Fc.M (T : Fc P fa fn fs fm ts E w K mg) (i : Nat) (h : fm[i]? = some d) : FunD K d.name d.qual d.params d.body d.scope (d.dvs K) (d.kws K) (cmAd K d.at_) (fdAt K (cmAd K d.at_)) := Z91 (T.c.at_ i h) (by have q := Za1 T.t11.2.2.2.2.2.2.2.2 h; exact q)
theorem Fc.cm (T : Fc P fa fn fs fm ts E w K mg) (i : Nat) (h : fm[i]? = some d) (e : d.at_ = (x, some m)) : ∃ p, CMet K (ga K x) (.type "type") m p (cmAd K d.at_) := Ygz e (by have q := Za1 T.t11.2.2.2.2.2.2.2.2 h; exact q)
end
def RunA (r : PySem.W.OpenRow) (q : Program) (M : Nat) (loose : List Str) (w : World) : Prop := ∀ os : OsState,
 Option.map (fun s => (HandSHeadRun.looksF r.prog (PySem.W.boot_heap w.params) s.abs, HandSHeadRun.seenQ q loose (importedModules r.prog.main.body) (fun s => PySem.W.xlAt q [] s && PySem.W.recOk r.records s) s.abs)) (HandSHeadRun.endF (HandSHeadRun.stepQ (HandSHeadRun.denQ HandSHeadRun.tabQ) r.prog w) M r.prog w os) = some (true, PySem.W.openGood q loose)
def RunB (r : PySem.W.OpenRow) (n : Nat) (fa : List Fa) (fn : List DefD) (ts : List Tab) (M : Nat) (w : World) : Prop := ∀ os : OsState,
 Option.map (fun s => obsT fa fn ts (KN n s)) (HandSHeadRun.endF (HandSHeadRun.stepQ (HandSHeadRun.denQ HandSHeadRun.tabQ) r.prog w) M r.prog w os) = some (valT fn ts w)
theorem Z00 {r : PySem.W.OpenRow} {q : Program} {n : Nat} {fa : List Fa} {fn : List DefD} {ts : List Tab} {M : Nat} {loose : List Str} {w : World} (h1 : RunA r q M loose w) (h2 : RunB r n fa fn ts M w) : Run1 r q n fa fn ts M loose w := by
 intro os
 have a := h1 os
 have b := h2 os
 cases e : HandSHeadRun.endF (HandSHeadRun.stepQ (HandSHeadRun.denQ HandSHeadRun.tabQ) r.prog w) M r.prog w os with
 | none => rw [e] at a; cases a
 | some s =>
  rw [e] at a b
  have a := Q0 a
  have b := Q0 b
  show some (_, _) = some (_, _)
  rw [← a, ← b]
end Cl
namespace Cl.Kl
open PySem PySem.Spec PyProof.Rows L2 He ClX
noncomputable abbrev PP : Program := (PySem.Challenge.rw_cliplore_k53_lots_made).prog
def top (i : Nat) : Stmt := PySem.Challenge.pw_cliplore_k53_lots_made.main.body.getD i (.Pass ⟨0, 0, 0, 0⟩)
abbrev Zgr : Stmt := inClass (top 3) 0
abbrev Zik : List Str := ["self", "part"]
abbrev Zlv : Stmt := inClass (top 4) 0
abbrev Zom : List Str := ["self", "word"]
abbrev Zkk : Stmt := inClass (top 5) 0
abbrev Znn : List Str := ["self", "what"]
abbrev Znm : List Str := ["text"]
abbrev Zno : List Str := ["self", "letters", "vowels", "foreign", "sign"]
abbrev Zim : List Str := ["self", "text", "sign"]
abbrev Zer : List Str := ["self", "name", "inner"]
abbrev Zil : List Str := ["self", "name"]
abbrev Zlw : Stmt := inClass (top 6) 0
abbrev Zon : List Str := ["self", "stage", "what"]
abbrev Zr6 : List Str := ["self", "other"]
abbrev Zut : List Str := ["self", "alphabet"]
abbrev Zsn : Stmt := inClass (top 19) 0
abbrev Zhe : List Str := ["self", "alphabet", "name", "after", "each"]
abbrev Zwp : List Str := ["self", "parts"]
abbrev Zux : List Str := ["self"]
abbrev Zwq : List Str := ["self", "state", "sign"]
abbrev Zy6 : List Str := ["self", "state"]
abbrev Zkj : Stmt := inClass (top 20) 0
abbrev Zeh : List Str := ["self", "alphabet", "name", "after", "each"]
abbrev Zkh : Stmt := inClass (top 20) 1
abbrev Zef : List Str := ["self"]
abbrev Zis : Stmt := inClass (top 20) 2
abbrev Zdb : List Str := ["self"]
abbrev Zki : Stmt := inClass (top 20) 3
abbrev Zeg : List Str := ["self", "state", "sign", "count", "waiting", "text"]
abbrev Zlu : Stmt := inClass (top 20) 4
abbrev Zeq : List Str := ["self", "state", "count", "waiting"]
abbrev Zpk : Stmt := inClass (top 21) 0
abbrev Zf6 : List Str := ["self", "alphabet", "sign", "name"]
abbrev Zur : List Str := ["self"]
abbrev Zr5 : List Str := ["self"]
abbrev Zus : List Str := ["self", "state", "sign"]
abbrev Zwj : List Str := ["self", "state"]
abbrev Zsm : Stmt := inClass (top 22) 0
abbrev Zhd : List Str := ["self", "alphabet", "name"]
abbrev Zwm : List Str := ["self"]
abbrev Zuw : List Str := ["self"]
abbrev Zwn : List Str := ["self", "state", "sign"]
abbrev Zy4 : List Str := ["self", "state"]
abbrev Zu4 : Stmt := inClass (top 23) 0
abbrev Zj1 : List Str := ["self", "alphabet", "sign"]
abbrev Zy7 : List Str := ["self"]
abbrev Zwr : List Str := ["self"]
abbrev Zy8 : List Str := ["self", "state", "sign"]
abbrev Z3q : List Str := ["self", "state"]
abbrev Zuu : List Str := ["self", "word", "state", "written", "sign", "text"]
abbrev Zwg : List Str := ["alphabet", "name", "parts", "number", "each", "after"]
abbrev Zuq : List Str := ["alphabet", "text", "parts"]
abbrev Zsl : Stmt := inClass (top 29) 1
abbrev Zhc : List Str := ["self", "alphabet", "stages", "stage"]
abbrev Zwk : List Str := ["self", "stage"]
abbrev Zuv : List Str := ["self", "word", "results", "stage"]
abbrev Zwl : List Str := ["self", "word"]
abbrev Zr3 : List Str := ["alphabet", "texts", "stages", "text", "e"]
abbrev Zy5 : List Str := ["self", "rules", "texts", "rule", "at"]
abbrev Zlt : Stmt := inClass (top 33) 2
abbrev Zj0 : List Str := ["cls", "alphabet", "depth", "stages", "known", "at", "many", "power", "size", "level", "rules", "row", "stage"]
abbrev Z3p : List Str := ["self"]
abbrev Zwo : List Str := ["self", "rule"]
abbrev Yav : List Str := ["_law_script"]
abbrev Z5z : List Str := ["_law_bag_here", "_law_size", "_law_rest", "_law_cell"]
abbrev Zwi : List Str := ["_law_bag_here", "_law_top", "_law_rest", "_law_letters_here", "_law_k"]
abbrev Zy3 : List Str := ["_law_bag_here", "_law_letters_here", "_law_sign"]
abbrev Z50 : List Str := ["_law_bag_here", "_law_letters_here", "_law_way", "_law_signs", "_law_listed", "_law_sign"]
abbrev Z3m : List Str := ["_law_bag_here", "_law_letters_here", "_law_way", "_law_signs", "_law_name_here", "_law_bound", "_law_sign"]
abbrev Zol : List Str := ["_law_stage_here", "_law_text"]
abbrev Zr4 : List Str := ["_law_stages", "_law_stage_here"]
abbrev Zwh : List Str := ["_law_letters_here", "_law_vowels_here", "_law_name_here", "_law_rest", "_law_sign", "_law_sets"]
abbrev Z3o : List Str := ["_law_letters_here", "_law_vowels_here", "_law_stage_here", "_law_word_here", "_law_chosen", "_law_sign", "_law_result", "_law_number", "_law_at", "_law_gone"]
abbrev Z3n : List Str := ["_law_letters_here", "_law_vowels_here", "_law_stages", "_law_word_here", "_law_stage_here"]
abbrev Z5y : List Str := ["_law_bag_here", "_law_signs", "_law_top", "_law_word_here", "_law_k"]
abbrev Z51 : List Str := ["_law_alphabet", "_law_texts", "_law_top"]
abbrev Yg5 : List Str := ["_law_script", "_law_bag_here", "_law_letters_here", "_law_vowels_here", "_law_alphabet", "_law_models", "_law_k", "_law_stage_here", "_law_texts", "_law_top", "_law_level", "_law_due", "_law_size", "_law_longer", "_law_row", "_law_lot", "_law_at", "_law_word_here", "_law_told", "_law_plain", "_law_joined"]
def ts : List Tab := [(fun K => ga K "NUMBERS", List.map (fun q => S q.1) NUMS)]
def fa : List Fa := [.glo "Add", .glo "Alphabet", .glo "BadAlphabet", .glo "BadRule", .glo "BadStage", .glo "BadWord", .glo "ClipError", .glo "Drop", .glo "LastDrop", .glo "Lot", .glo "Mixed", .glo "NUMBERS", .glo "Once", .glo "Rule", .glo "Write", .glo "_law_apply", .glo "_law_bag", .glo "_law_letters", .glo "_law_made", .glo "_law_members", .glo "_law_name", .glo "_law_rule_text", .glo "_law_short", .glo "_law_stage", .glo "_law_stage_text", .glo "_law_take", .glo "_law_vowels", .glo "_law_word", .glo "all_different", .glo "law", .glo "read_drop", .glo "read_stage", .glo "read_stages", .free "bool", .free "int", .free "isinstance", .free "len", .free "list", .free "range", .free "set", .free "sorted", .free "str", .free "super", .free "tuple", .meth "BadAlphabet" "__init__", .meth "BadStage" "__init__", .meth "BadWord" "__init__", .meth "BadRule" "__init__", .noat "BadAlphabet" "part", .noat "BadWord" "word", .noat "BadStage" "what", .noat "BadRule" "what", .noat "BadRule" "stage", .noat "Alphabet" "letters", .noat "Alphabet" "vowels", .noat "Alphabet" "consonants", .noat "Alphabet" "signs", .noat "Drop" "alphabet", .noat "Drop" "name", .noat "Drop" "chosen", .noat "Drop" "after", .noat "Drop" "each", .noat "LastDrop" "alphabet", .noat "LastDrop" "name", .noat "LastDrop" "chosen", .noat "LastDrop" "after", .noat "LastDrop" "each", .noat "Write" "alphabet", .noat "Write" "sign", .noat "Write" "name", .noat "Write" "chosen", .noat "Once" "alphabet", .noat "Once" "name", .noat "Once" "chosen", .noat "Add" "alphabet", .noat "Add" "sign", .noat "Rule" "alphabet", .noat "Rule" "stages", .noat "Lot" "alphabet", .noat "Lot" "rules", .cls "Alphabet", .cls "Drop", .cls "LastDrop", .cls "Write", .cls "Once", .cls "Add", .cls "Rule", .cls "Lot", .mkr "Drop", .mkr "LastDrop", .mkr "Add", .mkr "Once", .mkr "Write", .mkr "Lot", .mkr "Rule", .mkr "Alphabet", .meth "Alphabet" "__eq__", .meth "Lot" "__len__", .str "SMALL" (S [97, 98, 99, 100, 101, 102, 103, 104, 105, 106, 107, 108, 109, 110, 111, 112, 113, 114, 115, 116, 117, 118, 119, 120, 121, 122]), .str "SEPARATOR" (S [59, 32]), .str "EMPTY" (S [107, 101, 101, 112]), .int "LONGEST" 3, .int "DEEPEST" 3]
def Zif : DefD := dD (inClass (top 3) 0) ("BadAlphabet", some "__init__") "__init__" "BadAlphabet.__init__"
def Zoh : DefD := dD (inClass (top 4) 0) ("BadWord", some "__init__") "__init__" "BadWord.__init__"
def Znd : DefD := dD (inClass (top 5) 0) ("BadStage", some "__init__") "__init__" "BadStage.__init__"
def Zna : DefD := dD (top 13) ("all_different", none) "all_different" "all_different"
def Zne : DefD := dD (inClass (top 14) 2) ("Alphabet", some "__init__") "__init__" "Alphabet.__init__" [.str (S [])]
def Zih : DefD := dD (inClass (top 14) 6) ("Alphabet", some "is_word") "is_word" "Alphabet.is_word"
def Zep : DefD := dD (inClass (top 14) 5) ("Alphabet", some "listed_members") "listed_members" "Alphabet.listed_members"
def Zig : DefD := dD (inClass (top 14) 4) ("Alphabet", some "members") "members" "Alphabet.members"
def Zoi : DefD := dD (inClass (top 6) 0) ("BadRule", some "__init__") "__init__" "BadRule.__init__"
def Zrn : DefD := dD (inClass (top 14) 3) ("Alphabet", some "__eq__") "__eq__" "Alphabet.__eq__"
def Zt8 : DefD := dD (inClass (top 18) 0) ("Stage", some "__init__") "__init__" "Stage.__init__"
def Znc : DefD := dD (inClass (top 19) 0) ("Drop", some "__init__") "__init__" "Drop.__init__" [] [("after", .int 0), ("each", .bl false)]
def Zv6 : DefD := dD (inClass (top 19) 1) ("Drop", some "text") "text" "Drop.text"
def Zuc : DefD := dD (inClass (top 19) 2) ("Drop", some "start") "start" "Drop.start"
def Zv7 : DefD := dD (inClass (top 19) 3) ("Drop", some "step") "step" "Drop.step"
def Zyx : DefD := dD (inClass (top 19) 4) ("Drop", some "end") "end" "Drop.end"
def Zf3 : DefD := dD (inClass (top 20) 0) ("LastDrop", some "__init__") "__init__" "LastDrop.__init__" [] [("after", .int 0), ("each", .bl false)]
def Zf1 : DefD := dD (inClass (top 20) 1) ("LastDrop", some "text") "text" "LastDrop.text"
def Zfj : DefD := dD (inClass (top 20) 2) ("LastDrop", some "start") "start" "LastDrop.start"
def Zf2 : DefD := dD (inClass (top 20) 3) ("LastDrop", some "step") "step" "LastDrop.step"
def Zgn : DefD := dD (inClass (top 20) 4) ("LastDrop", some "end") "end" "LastDrop.end"
def Zkc : DefD := dD (inClass (top 21) 0) ("Write", some "__init__") "__init__" "Write.__init__"
def Zt6 : DefD := dD (inClass (top 21) 1) ("Write", some "text") "text" "Write.text"
def Zrm : DefD := dD (inClass (top 21) 2) ("Write", some "start") "start" "Write.start"
def Zt7 : DefD := dD (inClass (top 21) 3) ("Write", some "step") "step" "Write.step"
def Zvz : DefD := dD (inClass (top 21) 4) ("Write", some "end") "end" "Write.end"
def Znb : DefD := dD (inClass (top 22) 0) ("Once", some "__init__") "__init__" "Once.__init__"
def Zv3 : DefD := dD (inClass (top 22) 1) ("Once", some "text") "text" "Once.text"
def Zub : DefD := dD (inClass (top 22) 2) ("Once", some "start") "start" "Once.start"
def Zv4 : DefD := dD (inClass (top 22) 3) ("Once", some "step") "step" "Once.step"
def Zyu : DefD := dD (inClass (top 22) 4) ("Once", some "end") "end" "Once.end"
def Zpb : DefD := dD (inClass (top 23) 0) ("Add", some "__init__") "__init__" "Add.__init__"
def Zyy : DefD := dD (inClass (top 23) 1) ("Add", some "text") "text" "Add.text"
def Zv8 : DefD := dD (inClass (top 23) 2) ("Add", some "start") "start" "Add.start"
def Zyz : DefD := dD (inClass (top 23) 3) ("Add", some "step") "step" "Add.step"
def Z2u : DefD := dD (inClass (top 23) 4) ("Add", some "end") "end" "Add.end"
def Zt9 : DefD := dD (inClass (top 18) 5) ("Stage", some "__call__") "__call__" "Stage.__call__"
def Zvw : DefD := dD (top 24) ("read_drop", none) "read_drop" "read_drop"
def Zt5 : DefD := dD (top 25) ("read_stage", none) "read_stage" "read_stage"
def Zv1 : DefD := dD (inClass (top 29) 1) ("Rule", some "__init__") "__init__" "Rule.__init__"
def Zv0 : DefD := dD (inClass (top 29) 3) ("Rule", some "text") "text" "Rule.text"
def Zua : DefD := dD (inClass (top 29) 13) ("Rule", some "trace") "trace" "Rule.trace"
def Zv2 : DefD := dD (inClass (top 29) 14) ("Rule", some "__call__") "__call__" "Rule.__call__"
def Zrk : DefD := dD (top 32) ("read_stages", none) "read_stages" "read_stages"
def Zyw : DefD := dD (inClass (top 33) 1) ("Lot", some "__init__") "__init__" "Lot.__init__"
def Zyv : DefD := dD (inClass (top 33) 2) ("Lot", some "made") "made" "Lot.made" [] [("depth", .int 2)]
def Z2t : DefD := dD (inClass (top 33) 3) ("Lot", some "__len__") "__len__" "Lot.__len__"
def Zv5 : DefD := dD (inClass (top 33) 4) ("Lot", some "texts") "texts" "Lot.texts"
def Z95 : DefD := dD (top 35) ("_law_bag", none) "_law_bag" "_law_bag"
def Z5l : DefD := dD (top 36) ("_law_take", none) "_law_take" "_law_take"
def Zvy : DefD := dD (top 37) ("_law_letters", none) "_law_letters" "_law_letters"
def Zyt : DefD := dD (top 38) ("_law_vowels", none) "_law_vowels" "_law_vowels"
def Z5m : DefD := dD (top 39) ("_law_name", none) "_law_name" "_law_name"
def Z2q : DefD := dD (top 40) ("_law_stage", none) "_law_stage" "_law_stage"
def Zog : DefD := dD (top 41) ("_law_stage_text", none) "_law_stage_text" "_law_stage_text"
def Zrl : DefD := dD (top 42) ("_law_rule_text", none) "_law_rule_text" "_law_rule_text"
def Zvx : DefD := dD (top 43) ("_law_members", none) "_law_members" "_law_members"
def Z2s : DefD := dD (top 44) ("_law_apply", none) "_law_apply" "_law_apply"
def Z2r : DefD := dD (top 45) ("_law_short", none) "_law_short" "_law_short"
def Z5k : DefD := dD (top 46) ("_law_word", none) "_law_word" "_law_word"
def Z5n : DefD := dD (top 47) ("_law_made", none) "_law_made" "_law_made"
def Ygv : DefD := dD (top 48) ("law", none) "law" "law"
def fnd : List DefD := [Zif, Zoh, Znd, Zna, Zne, Zih, Zep, Zig, Zoi, Zrn, Zt8, Zv6, Zuc, Zv7, Zyx, Zt6, Zrm, Zt7, Zvz, Zv3, Zub, Zv4, Zyu, Zyy, Zv8, Zyz, Z2u, Zt9, Zvw, Zt5, Zv1, Zv0, Zua, Zv2, Zrk, Zyw, Z2t, Zv5, Z95, Z5l, Zvy, Zyt, Z5m, Z2q, Zog, Zrl, Zvx, Z2s, Z2r, Z5k, Z5n, Ygv]
def fns : List DefD := [Znc, Zf3, Zf1, Zfj, Zf2, Zgn, Zkc, Znb, Zpb]
def fm : List DefD := [Zyv]
def es : Es := { sb := [("Drop", Znc), ("LastDrop", Zf3), ("LastDrop", Zf1), ("LastDrop", Zfj), ("LastDrop", Zf2), ("LastDrop", Zgn), ("Write", Zkc), ("Once", Znb), ("Add", Zpb)], xc := ["BadAlphabet", "BadStage", "BadWord", "Mixed", "BadRule"], bi := ["ClipError"], kc := [("Alphabet", "Alphabet", true)], kt := [("list", "list", true)], ic := ["Alphabet"], cr := ["Alphabet", "Lot", "Rule"], cv := [("Alphabet", "JOINT", (sv [45])), ("Alphabet", "MOST", (.int 8)), ("Rule", "MOST", (.int 4)), ("Lot", "MOST", (.int 200))], sg := [("Stage", some "__init__"), ("Drop", some "__init__"), ("Drop", some "text"), ("Drop", some "start"), ("Drop", some "step"), ("Drop", some "end")], su := [("Drop", "Drop", "__init__", ("Stage", some "__init__")), ("LastDrop", "Drop", "__init__", ("Stage", some "__init__")), ("LastDrop", "LastDrop", "__init__", ("Drop", some "__init__")), ("LastDrop", "LastDrop", "text", ("Drop", some "text")), ("LastDrop", "LastDrop", "start", ("Drop", some "start")), ("LastDrop", "LastDrop", "step", ("Drop", some "step")), ("LastDrop", "LastDrop", "end", ("Drop", some "end")), ("Write", "Write", "__init__", ("Stage", some "__init__")), ("Once", "Once", "__init__", ("Stage", some "__init__")), ("Add", "Add", "__init__", ("Stage", some "__init__"))], mb := [("Alphabet", "is_word", ("Alphabet", some "is_word")), ("Alphabet", "listed_members", ("Alphabet", some "listed_members")), ("Alphabet", "members", ("Alphabet", some "members")), ("Drop", "end", ("Drop", some "end")), ("LastDrop", "end", ("LastDrop", some "end")), ("Write", "end", ("Write", some "end")), ("Once", "end", ("Once", some "end")), ("Add", "end", ("Add", some "end")), ("Drop", "step", ("Drop", some "step")), ("LastDrop", "step", ("LastDrop", some "step")), ("Write", "step", ("Write", some "step")), ("Once", "step", ("Once", some "step")), ("Add", "step", ("Add", some "step")), ("Drop", "start", ("Drop", some "start")), ("LastDrop", "start", ("LastDrop", some "start")), ("Write", "start", ("Write", some "start")), ("Once", "start", ("Once", some "start")), ("Add", "start", ("Add", some "start")), ("Drop", "text", ("Drop", some "text")), ("LastDrop", "text", ("LastDrop", some "text")), ("Write", "text", ("Write", some "text")), ("Once", "text", ("Once", some "text")), ("Add", "text", ("Add", some "text")), ("Rule", "trace", ("Rule", some "trace")), ("Rule", "text", ("Rule", some "text")), ("Lot", "texts", ("Lot", some "texts"))], ca := [("Drop", ("Stage", some "__call__")), ("LastDrop", ("Stage", some "__call__")), ("Write", ("Stage", some "__call__")), ("Once", ("Stage", some "__call__")), ("Add", ("Stage", some "__call__")), ("Rule", ("Rule", some "__call__"))], ne := ["Alphabet"], e0 := ["Mixed"], tb := [("NUMBERS", NUMS)] }
noncomputable def ex : PySem.W.Frag → Bool := es.ok PP fm
abbrev Facts (w : World) (K : PySem.W.Frag) (mg : Str → Option Value) : Prop := Fc PP fa fnd fns fm ts es w K mg
theorem Z5e {K : PySem.W.Frag} {w : World} {h : Heap} {mg : Str → Option Value} (X : K.In h) (G : h.Ns mainGlobals mg) (c : Zwf fa fnd fns fm ts ex w K) : Facts w K mg := ⟨⟨_, X, G⟩, c⟩
abbrev R : PySem.W.OpenRow := PySem.W.OpenLaw.row PySem.Challenge.rw_cliplore_k53_lots_made
def loose : List PySem.Str := (["_wall", "ClipError", "BadAlphabet", "BadWord", "BadStage", "BadRule", "Mixed", "BadLot", "BadLimit", "TooMany", "SMALL", "all_different", "Alphabet", "NUMBERS", "LONGEST", "Stage", "Drop", "LastDrop", "Write", "Once", "Add", "read_drop", "read_stage", "SEPARATOR", "EMPTY", "Rule", "DEEPEST", "read_stages", "Lot", "_law_bag"] : List PySem.Str) ++ (["_law_take", "_law_letters", "_law_vowels", "_law_name", "_law_stage", "_law_stage_text", "_law_rule_text", "_law_members", "_law_apply", "_law_short", "_law_word", "_law_made"] : List PySem.Str)
noncomputable abbrev hk : PySem.W.Hook := Z9w 5 fa fnd fns fm ts ex
noncomputable def ob (s : PySem.W.SharedT) : ((AlT × Bool) × List FnS) × List He5.FnW := obsN 5 fa fnd fns fm ts ex (HandSHeadRun.getT s)
theorem Yfw (s : PySem.W.SharedT) : ob s = hk.obs s.abs := Z87 (HandSHeadRun.getT_eq s)
theorem Ybz (w : World) : RunA R (PySem.W.view R.prog [48]) 12000 loose (Znu w true) := by
 intro os
 kernel_rfl
theorem Yby (w : World) : RunB R 5 fa fnd ts 12000 (Znu w true) := by
 intro os
 kernel_rfl
theorem Yb0 (w : World) : Run2 R 5 fns fm ex 12000 (Znu w true) := by
 intro os
 kernel_rfl
theorem Yfk (w : World) : HandSHeadRun.RunEq R (PySem.W.view R.prog [48]) hk ob 12000 loose (Znu w true) := Z0z (Z00 (Ybz w) (Yby w)) (Yb0 w)
theorem Yb2 (w : World) : RunA R (PySem.W.view R.prog [48]) 12000 loose (Znu w false) := by
 intro os
 kernel_rfl
theorem Yb1 (w : World) : RunB R 5 fa fnd ts 12000 (Znu w false) := by
 intro os
 kernel_rfl
theorem Yb3 (w : World) : Run2 R 5 fns fm ex 12000 (Znu w false) := by
 intro os
 kernel_rfl
theorem Yfl (w : World) : HandSHeadRun.RunEq R (PySem.W.view R.prog [48]) hk ob 12000 loose (Znu w false) := Z0z (Z00 (Yb2 w) (Yb1 w)) (Yb3 w)
set_option maxHeartbeats 0 in
theorem run (w : World) : HandSHeadRun.RunEq R (PySem.W.view R.prog [48]) hk ob 12000 loose w := by
 cases h : w.params.followText "special-get-raises" with
 | true => have e := Zxb h; have r := Yfk w; rw [e] at r; exact r
 | false => have e := Zxb h; have r := Yfl w; rw [e] at r; exact r
end Cl.Kl
namespace Cl.Kl
open PySem PySem.Spec PyProof.Rows L2 He
def LoT : Prop := ∀ (w : World) (K : PySem.W.Frag) (h : Heap) (mg : Str → Option Value) (f : Addr), K.In h → h.Ns mainGlobals mg → mg ("law" : Str) = some (.ref f) → Zwf fa fnd fns fm ts ex w K → ∃ (fd : FuncData) (sp : Sp), (∀ (s : Shared) (v : Value), BindsTo s fd ⟨[v], []⟩ [("_law_script", v)]) ∧ (∀ (H : Hp) (a : Addr) (ns : List Int), ns.length ≤ 63 → Only H → SqL K H a (ns.map V.int) → sp [.ref a] H (fun v _ => v = .bl true) fun _ _ _ => False) ∧ ∀ base : Heap, K.In base → base.Ns mainGlobals mg → FnOk PP w K mg base CX0 13 f fd ["_law_script"] sp
end Cl.Kl
section
open PySem PySem.W PySem.Calls PyProof.Rows
set_option maxHeartbeats 0 in
theorem Cl.Kl.early (LO : Cl.Kl.LoT) : PySem.Challenge.rw_cliplore_k53_lots_made.Holds := by
 w_on; o_law
 refine HandSHeadRun.head_any (r := OpenLaw.row PySem.Challenge.rw_cliplore_k53_lots_made) (q := view (OpenLaw.row PySem.Challenge.rw_cliplore_k53_lots_made).prog [48]) (H := Cl.Kl.hk) (ob := Cl.Kl.ob) (M := 12000) (loose := Cl.Kl.loose) (d := HandSHeadRun.topDef (OpenLaw.row PySem.Challenge.rw_cliplore_k53_lots_made).prog 48) (kwd := []) Cl.Kl.Yfw
  (by kernel_rfl) (fun s => by kernel_rfl) Cl.Kl.run (by kernel_rfl) (by kernel_rfl) (by kernel_rfl) (by rfl) (by first | assumption | decide +kernel) (by decide +kernel) ⟨rfl, rfl, rfl, rfl, rfl, by decide +kernel⟩ ?hw ?hc
 case hw => w_witness2
 case hc =>
  refine L2.walk_ofE (l := PySem.Challenge.rw_cliplore_k53_lots_made) (n := 63) (k := 13) (x := "_law_script") (CX := L2.CX0) rfl (by decide) (by kernel_rfl) ⟨rfl, by decide, by decide⟩ ?F (fun _ _ _ _ z => z)
  intro w mg f h Y G hmg0
  obtain ⟨K, KX, c⟩ := Y
  have hmg : mg ("law" : PySem.Str) = some (.ref f) := by
   have e : (HandSHeadRun.topDef (OpenLaw.row PySem.Challenge.rw_cliplore_k53_lots_made).prog 48).name = ("law" : PySem.Str) := by kernel_rfl
   rw [← e]
   exact hmg0
  obtain ⟨fd, sp, hb, hs, hF⟩ := LO w K h mg f KX G hmg c
  exact ⟨K, fd, sp, KX, hb, hs, hF⟩
end
namespace Cl
open PySem PySem.Spec PyProof.Rows L2 He ClX
inductive Cn where
 | Alphabet | Stage | Drop | LastDrop | Write | Once | Add | Rule | ShapeReader | Stock | Machine | Readings | Lot | Book | Questions
 | ClipError | BadAlphabet | BadWord | BadStage | BadRule | BadShape | BadTable | Mixed | BadLot | BadLimit | TooMany | OutsideStock | NoRule | NoEntry | NoClass | NoHistory | BadDeed | NoPlan
 deriving DecidableEq
def Cn.str : Cn → Str
 | .Alphabet => "Alphabet" | .Stage => "Stage" | .Drop => "Drop" | .LastDrop => "LastDrop" | .Write => "Write" | .Once => "Once" | .Add => "Add" | .Rule => "Rule" | .ShapeReader => "ShapeReader" | .Stock => "Stock" | .Machine => "Machine" | .Readings => "Readings" | .Lot => "Lot" | .Book => "Book" | .Questions => "Questions"
 | .ClipError => "ClipError" | .BadAlphabet => "BadAlphabet" | .BadWord => "BadWord" | .BadStage => "BadStage" | .BadRule => "BadRule" | .BadShape => "BadShape" | .BadTable => "BadTable" | .Mixed => "Mixed" | .BadLot => "BadLot" | .BadLimit => "BadLimit" | .TooMany => "TooMany" | .OutsideStock => "OutsideStock" | .NoRule => "NoRule" | .NoEntry => "NoEntry" | .NoClass => "NoClass" | .NoHistory => "NoHistory" | .BadDeed => "BadDeed" | .NoPlan => "NoPlan"
inductive Fd where
 | letters | vowels | consonants | signs | alphabet | name | chosen | after | each | sign | stages | source | at_ | atoms | follows | rows | goods | first | ends | nodes | edges | finals | live | rules
 | lot | stock | classes | state | now | past | undone | queries | possible | shorts | known | part | word | what | stage | place | number | asked | fewest | way | index | one | two
 deriving DecidableEq
def Fd.str : Fd → Str
 | .letters => "letters" | .vowels => "vowels" | .consonants => "consonants" | .signs => "signs" | .alphabet => "alphabet" | .name => "name" | .chosen => "chosen" | .after => "after" | .each => "each" | .sign => "sign" | .stages => "stages" | .source => "source" | .at_ => "at" | .atoms => "atoms" | .follows => "follows" | .rows => "rows" | .goods => "goods" | .first => "first" | .ends => "ends" | .nodes => "nodes" | .edges => "edges" | .finals => "finals" | .live => "live" | .rules => "rules"
 | .lot => "lot" | .stock => "stock" | .classes => "classes" | .state => "state" | .now => "now" | .past => "past" | .undone => "undone" | .queries => "queries" | .possible => "possible" | .shorts => "shorts" | .known => "known" | .part => "part" | .word => "word" | .what => "what" | .stage => "stage" | .place => "place" | .number => "number" | .asked => "asked" | .fewest => "fewest" | .way => "way" | .index => "index" | .one => "one" | .two => "two"
def Cn.flds : Cn → List Fd
 | .Alphabet => [.letters, .vowels, .consonants, .signs]
 | .Stage => [.alphabet]
 | .Drop | .LastDrop => [.alphabet, .name, .chosen, .after, .each]
 | .Write => [.alphabet, .sign, .name, .chosen]
 | .Once => [.alphabet, .name, .chosen]
 | .Add => [.alphabet, .sign]
 | .Rule => [.alphabet, .stages]
 | .ShapeReader => [.alphabet, .source, .at_, .atoms, .follows]
 | .Stock => [.alphabet, .rows, .goods]
 | .Machine => [.alphabet, .first, .rows, .ends]
 | .Readings => [.signs, .nodes, .edges, .finals, .live]
 | .Lot => [.alphabet, .rules]
 | .Book => [.lot, .stock, .classes, .state, .now, .past, .undone]
 | .Questions => [.queries, .possible, .shorts, .known]
 | .BadAlphabet => [.part] | .BadWord => [.word] | .BadStage => [.what] | .BadRule => [.what, .stage] | .BadShape => [.place] | .BadTable => [.place] | .BadLot => [.number] | .BadLimit => [.asked] | .TooMany => [.number] | .OutsideStock => [.word] | .NoRule => [.fewest] | .NoEntry => [.number] | .NoClass => [.number] | .NoHistory => [.way] | .BadDeed => [.index] | .NoPlan => [.two, .one]
 | .ClipError | .Mixed => []
def Fd.all : List Fd := [.letters, .vowels, .consonants, .signs, .alphabet, .name, .chosen, .after, .each, .sign, .stages, .source, .at_, .atoms, .follows, .rows, .goods, .first, .ends, .nodes, .edges, .finals, .live, .rules, .lot, .stock, .classes, .state, .now, .past, .undone, .queries, .possible, .shorts, .known, .part, .word, .what, .stage, .place, .number, .asked, .fewest, .way, .index, .one, .two]
def Fd.of (x : Str) : Option Fd := Fd.all.find? fun f => decide (f.str = x)
theorem Fd.Z6x (f : Fd) : Fd.of f.str = some f := by cases f <;> decide +kernel
theorem Fd.inj {f g : Fd} (h : f.str = g.str) : f = g := Q0 ((Fd.Z6x f).symm.trans ((congrArg Fd.of h).trans (Fd.Z6x g)))
theorem Cn.nodup (c : Cn) : c.flds.Nodup := by cases c <;> decide
def Cn.ix (c : Cn) (f : Fd) : Nat := c.flds.idxOf f
inductive PV where
 | non | bl (b : Bool) | int (i : Int) | str (z : List Nat) | lst (xs : List PV) | tup (xs : List PV) | obj (c : Cn) (xs : List PV) | ty (n : String) | cls (c : Cn) | dct (ks : List Key) (xs : List PV) | scr (ns : List Int)
inductive D where
 | v (x : PV) | cell (i : Nat) | exn (a : Addr)
inductive Cell where
 | lst (xs : List D) | obj (c : Cn) (xs : List D) | dct (kvs : List (Key × D)) | dtt (kvs : List (List Key × D)) | tpl (xs : List D) | dnn (es : List (PV × Int × D))
abbrev Mem := List (Option Cell)
abbrev DSt := List (Option D)
structure DErr where
 c : Cn
 xs : List PV
inductive A2 {α β : Type} (R : α → β → Prop) : List α → List β → Prop
 | nil : A2 R [] []
 | cons {a : α} {b : β} {as : List α} {bs : List β} : R a b → A2 R as bs → A2 R (a :: as) (b :: bs)
section
variable {α β : Type} {R S : α → β → Prop}
theorem A2.len : ∀ {as : List α} {bs : List β}, A2 R as bs → as.length = bs.length
 | _, _, .nil => rfl
 | _, _, .cons _ t => congrArg Nat.succ (A2.len t)
theorem A2.imp (f : ∀ a b, R a b → S a b) : ∀ {as : List α} {bs : List β}, A2 R as bs → A2 S as bs
 | _, _, .nil => .nil
 | _, _, .cons r t => .cons (f _ _ r) (A2.imp f t)
theorem A2.get : ∀ {as : List α} {bs : List β} {i : Nat} {a : α}, A2 R as bs → as[i]? = some a → ∃ b, bs[i]? = some b ∧ R a b
 | _, _, _, _, .nil, e => by simp at e
 | _, _, 0, _, .cons r _, e => by simp at e; subst e; exact ⟨_, rfl, r⟩
 | _, _, i + 1, a, .cons _ t, e => by
  obtain ⟨b, h1, h2⟩ := A2.get (i := i) (a := a) t (by simpa using e)
  exact ⟨b, by simpa using h1, h2⟩
theorem A2.set {a : α} {b : β} (r : R a b) : ∀ {as : List α} {bs : List β} (i : Nat), A2 R as bs → A2 R (as.set i a) (bs.set i b)
 | _, _, _, .nil => .nil
 | _, _, 0, .cons _ t => .cons r t
 | _, _, i + 1, .cons q t => .cons q (A2.set r i t)
theorem A2.append : ∀ {as cs : List α} {bs ds : List β}, A2 R as bs → A2 R cs ds → A2 R (as ++ cs) (bs ++ ds)
 | _, _, _, _, .nil, s => s
 | _, _, _, _, .cons r t, s => .cons r (A2.append t s)
theorem A2.take : ∀ {as : List α} {bs : List β} (n : Nat), A2 R as bs → A2 R (as.take n) (bs.take n)
 | _, _, 0, _ => .nil
 | _, _, _ + 1, .nil => .nil
 | _, _, n + 1, .cons r t => .cons r (A2.take n t)
theorem A2.drop : ∀ {as : List α} {bs : List β} (n : Nat), A2 R as bs → A2 R (as.drop n) (bs.drop n)
 | _, _, 0, r => r
 | _, _, _ + 1, .nil => .nil
 | _, _, n + 1, .cons _ t => A2.drop n t
theorem A2.erase : ∀ {as : List α} {bs : List β} (n : Nat), A2 R as bs → A2 R (as.eraseIdx n) (bs.eraseIdx n)
 | _, _, _, .nil => .nil
 | _, _, 0, .cons _ t => t
 | _, _, n + 1, .cons r t => .cons r (A2.erase n t)
theorem A2.reverse : ∀ {as : List α} {bs : List β}, A2 R as bs → A2 R as.reverse bs.reverse
 | _, _, .nil => .nil
 | _, _, .cons r t => by
  rw [G6, G6]
  exact (A2.reverse t).append (.cons r .nil)
theorem A2.map {γ δ : Type} {T : γ → δ → Prop} {f : γ → α} {g : δ → β} (h : ∀ c d, T c d → R (f c) (g d)) : ∀ {cs : List γ} {ds : List δ}, A2 T cs ds → A2 R (cs.map f) (ds.map g)
 | _, _, .nil => .nil
 | _, _, .cons r t => .cons (h _ _ r) (A2.map h t)
theorem A2.fn {f : α → β} (h : ∀ a b, R a b → b = f a) : ∀ {as : List α} {bs : List β}, A2 R as bs → bs = as.map f
 | _, _, .nil => rfl
 | _, _, .cons r t => by rw [h _ _ r, A2.fn h t]; rfl
theorem A2.refl {R : α → α → Prop} (h : ∀ a, R a a) : ∀ as : List α, A2 R as as
 | [] => .nil
 | a :: as => .cons (h a) (A2.refl h as)
theorem A2.of_map {γ : Type} {f : γ → α} {g : γ → β} (h : ∀ c, R (f c) (g c)) : ∀ cs : List γ, A2 R (cs.map f) (cs.map g)
 | [] => .nil
 | c :: cs => .cons (h c) (A2.of_map h cs)
end
def fz (c : Cn) (vs : List V) : List (Str × V) := (c.flds.map Fd.str).zip vs
mutual
def Rp (K : PySem.W.Frag) (cs : List Cn) (F : Hp) : PV → V → Prop
 | .non, v => v = .non
 | .bl b, v => v = .bl b
 | .int i, v => v = .int i
 | .str z, v => v = sv z
 | .ty n, v => v = .ty n
 | .cls c, v => v = .ref (ga K c.str)
 | .scr ns, v => ∃ a, v = .ref a ∧ SqL K F a (ns.map V.int)
 | .lst xs, v => ∃ a vs, v = .ref a ∧ F a = some (.lst vs) ∧ RpL K cs F xs vs
 | .tup xs, v => ∃ a vs, v = .ref a ∧ SqT K F a vs ∧ RpL K cs F xs vs
 | .obj c xs, v => ∃ a dx vs, v = .ref a ∧ F a = some (.ins (ga K c.str) dx (fz c vs)) ∧ c ∈ cs ∧ xs.length ≤ c.flds.length ∧ RpL K cs F xs vs
 | .dct ks xs, v => ∃ a vs, v = .ref a ∧ F a = some (.dK (ks.zip vs)) ∧ ks.length = xs.length ∧ RpL K cs F xs vs
def RpL (K : PySem.W.Frag) (cs : List Cn) (F : Hp) : List PV → List V → Prop
 | [], vs => vs = []
 | x :: xs, vs => ∃ v ws, vs = v :: ws ∧ Rp K cs F x v ∧ RpL K cs F xs ws
end
section
variable {K : PySem.W.Frag} {cs : List Cn} {F F' : Hp}
theorem Same.seqT {H H' : Hp} {a : Addr} {xs : List V} (e : Same H H') (h : SqT K H a xs) : SqT K H' a xs := by
 rcases h with (h | ⟨o, h⟩) | h
 ·exact .inl (.inl (e _ _ h))
 ·exact .inl (.inr ⟨o, e _ _ h⟩)
 ·exact .inr h
mutual
theorem Rp.same (s : Same F F') : ∀ (x : PV) (v : V), Rp K cs F x v → Rp K cs F' x v
 | .non, _, h => h
 | .bl _, _, h => h
 | .int _, _, h => h
 | .str _, _, h => h
 | .ty _, _, h => h
 | .cls _, _, h => h
 | .scr _, _, ⟨a, e, h1⟩ => ⟨a, e, s.seq h1⟩
 | .lst xs, _, ⟨a, vs, e, h1, h2⟩ => ⟨a, vs, e, s _ _ h1, RpL.same s xs vs h2⟩
 | .tup xs, _, ⟨a, vs, e, h1, h2⟩ => ⟨a, vs, e, Same.seqT s h1, RpL.same s xs vs h2⟩
 | .obj _ xs, _, ⟨a, dx, vs, e, h1, h2, h4, h3⟩ => ⟨a, dx, vs, e, s _ _ h1, h2, h4, RpL.same s xs vs h3⟩
 | .dct _ xs, _, ⟨a, vs, e, h1, h2, h3⟩ => ⟨a, vs, e, s _ _ h1, h2, RpL.same s xs vs h3⟩
theorem RpL.same (s : Same F F') : ∀ (xs : List PV) (vs : List V), RpL K cs F xs vs → RpL K cs F' xs vs
 | [], _, h => h
 | x :: xs, _, ⟨v, ws, e, h1, h2⟩ => ⟨v, ws, e, Rp.same s x v h1, RpL.same s xs ws h2⟩
end
theorem RpL.a2 : ∀ {xs : List PV} {vs : List V}, RpL K cs F xs vs → A2 (Rp K cs F) xs vs
 | [], _, h => by cases (show _ = [] from h); exact .nil
 | x :: xs, _, ⟨v, ws, e, h1, h2⟩ => by cases e; exact .cons h1 h2.a2
theorem A2.rpL : ∀ {xs : List PV} {vs : List V}, A2 (Rp K cs F) xs vs → RpL K cs F xs vs
 | _, _, .nil => (rfl : ([] : List V) = [])
 | _, _, .cons h t => ⟨_, _, rfl, h, t.rpL⟩
theorem RpL.len {xs : List PV} {vs : List V} (h : RpL K cs F xs vs) : xs.length = vs.length := h.a2.len
structure CS where
 F : Hp
 ρ : List Addr
 H : Hp
def RpD (K : PySem.W.Frag) (cs : List Cn) (F : Hp) (ρ : List Addr) : D → V → Prop
 | .v x, v => Rp K cs F x v
 | .cell i, v => ∃ a, ρ[i]? = some a ∧ v = .ref a
 | .exn a, v => v = .ref a
def RpKD {κ : Type} (K : PySem.W.Frag) (cs : List Cn) (F : Hp) (ρ : List Addr) (p : κ × D) (q : κ × V) : Prop := p.1 = q.1 ∧ RpD K cs F ρ p.2 q.2
def DnO (a : Addr) (ys : List (Int × Addr × V)) : Heap → Prop := fun h => ∃ o ep ens, h.get? a = some o ∧ o.ExactDict ∧ o.data = .dict ens ep ∧ A2 (fun (y : Int × Addr × V) (en : DictEntry) => en.hash = y.1 ∧ en.key = .ref y.2.1 ∧ RelV y.2.2 en.val) ys ens.toList
def RpN (K : PySem.W.Frag) (cs : List Cn) (F : Hp) (ρ : List Addr) (p : PV × Int × D) (q : Int × Addr × V) : Prop := p.2.1 = q.1 ∧ Rp K cs F p.1 (.ref q.2.1) ∧ RpD K cs F ρ p.2.2 q.2.2
def RpC (K : PySem.W.Frag) (cs : List Cn) (F : Hp) (ρ : List Addr) (a : Addr) : Cell → HO → Prop
 | .lst ds, o => ∃ vs, o = .lst vs ∧ A2 (RpD K cs F ρ) ds vs
 | .obj c ds, o => ∃ dx vs, o = .ins (ga K c.str) dx (fz c vs) ∧ c ∈ cs ∧ ds.length ≤ c.flds.length ∧ A2 (RpD K cs F ρ) ds vs
 | .dct ds, o => ∃ vs, o = .dK vs ∧ A2 (RpKD K cs F ρ) ds vs
 | .dtt ds, o => ∃ vs, o = .dT vs ∧ A2 (RpKD K cs F ρ) ds vs
 | .tpl ds, o => ∃ vs, o = .tup vs ∧ A2 (RpD K cs F ρ) ds vs
 | .dnn es, o => ∃ ys, o = .ext (DnO a ys) ∧ (a == sysModules) = false ∧ A2 (RpN K cs F ρ) es ys
def Live (ρ : List Addr) (M : Mem) (a : Addr) : Prop := ∃ (i : Nat) (x : Cell), ρ[i]? = some a ∧ M[i]? = some (some x)
structure Rel (K : PySem.W.Frag) (cs : List Cn) (c : CS) (M : Mem) : Prop where
 same : Same c.F c.H
 len : c.ρ.length = M.length
 nd : c.ρ.Nodup
 isin : ∀ a ∈ c.ρ, c.H a ≠ none
 live : ∀ (i : Nat) (a : Addr) (x : Cell), c.ρ[i]? = some a → M[i]? = some (some x) → c.F a = none ∧ ∃ o, c.H a = some o ∧ RpC K cs c.F c.ρ a x o
structure Step (c : CS) (M : Mem) (c' : CS) (M' : Mem) : Prop where
 same : Same c.F c'.F
 pre : c.ρ <+: c'.ρ
 frame : ∀ a o, c.H a = some o → c.F a = none → ¬ Live c.ρ M a → c'.H a = some o ∧ c'.F a = none ∧ ¬ Live c'.ρ M' a
theorem Step.refl (c : CS) (M : Mem) : Step c M c M := ⟨Same.refl _, Hk _, fun _ _ h1 h2 h3 => ⟨h1, h2, h3⟩⟩
theorem Step.trans {c c1 c2 : CS} {M M1 M2 : Mem} (a : Step c M c1 M1) (b : Step c1 M1 c2 M2) : Step c M c2 M2 :=
 ⟨a.same.trans b.same, a.pre.trans b.pre, fun x o h1 h2 h3 => let ⟨g1, g2, g3⟩ := a.frame x o h1 h2 h3; b.frame x o g1 g2 g3⟩
theorem Zha {α : Type} {l m : List α} (h : l <+: m) {i : Nat} {a : α} (e : l[i]? = some a) : m[i]? = some a := by
 obtain ⟨t, rfl⟩ := h
 exact (Qy (Qa.mp e).1).trans e
theorem RpD.mono {ρ ρ' : List Addr} (s : Same F F') (p : ρ <+: ρ') : ∀ {d : D} {v : V}, RpD K cs F ρ d v → RpD K cs F' ρ' d v
 | .v x, v, h => Rp.same s x v h
 | .cell _, _, ⟨a, e, h⟩ => ⟨a, Zha p e, h⟩
 | .exn _, _, h => h
theorem RpC.mono {ρ ρ' : List Addr} {a : Addr} (s : Same F F') (p : ρ <+: ρ') : ∀ {x : Cell} {o : HO}, RpC K cs F ρ a x o → RpC K cs F' ρ' a x o
 | .lst _, _, ⟨vs, e, h⟩ => ⟨vs, e, h.imp fun _ _ => RpD.mono s p⟩
 | .obj _ _, _, ⟨dx, vs, e, h1, h3, h2⟩ => ⟨dx, vs, e, h1, h3, h2.imp fun _ _ => RpD.mono s p⟩
 | .dct _, _, ⟨vs, e, h⟩ => ⟨vs, e, h.imp fun _ _ q => ⟨q.1, RpD.mono s p q.2⟩⟩
 | .dtt _, _, ⟨vs, e, h⟩ => ⟨vs, e, h.imp fun _ _ q => ⟨q.1, RpD.mono s p q.2⟩⟩
 | .tpl _, _, ⟨vs, e, h⟩ => ⟨vs, e, h.imp fun _ _ => RpD.mono s p⟩
 | .dnn _, _, ⟨ys, e, h0, h⟩ => ⟨ys, e, h0, h.imp fun _ _ q => ⟨q.1, Rp.same s _ _ q.2.1, RpD.mono s p q.2.2⟩⟩
def RpS (K : PySem.W.Frag) (cs : List Cn) (c : CS) (ds : DSt) (σ : L2.St) : Prop := ds.length = σ.length ∧ ∀ (i : Nat) (d : D), ds[i]? = some (some d) → ∃ v, σ[i]? = some (some v) ∧ RpD K cs c.F c.ρ d v
theorem RpS.step {c c' : CS} {M M' : Mem} {ds : DSt} {σ : L2.St} (h : RpS K cs c ds σ) (s : Step c M c' M') : RpS K cs c' ds σ :=
 ⟨h.1, fun i d e => let ⟨v, h1, h2⟩ := h.2 i d e; ⟨v, h1, h2.mono s.same s.pre⟩⟩
theorem RpS.set {c : CS} {ds : DSt} {σ : L2.St} (h : RpS K cs c ds σ) {i : Nat} {d : D} {v : V} (r : RpD K cs c.F c.ρ d v) : RpS K cs c (ds.set i (some d)) (σ.set i (some v)) := by
 refine ⟨by simpa using h.1, fun j e q => ?_⟩
 by_cases hj : i = j
 ·subst hj
  have hl : i < ds.length := by
   have := (Qa.mp q).1
   simpa using this
  rw [Qs hl] at q
  cases q
  exact ⟨v, Qs (by rw [← h.1]; exact hl), r⟩
 ·rw [Q4 hj] at q
  rw [Q4 hj]
  exact h.2 j e q
theorem RpS.Yes {c : CS} {ds : DSt} {σ : L2.St} (h : RpS K cs c ds σ) (i : Nat) : RpS K cs c (ds.set i none) (σ.set i none) := by
 refine ⟨by simpa using h.1, fun j e q => ?_⟩
 by_cases hj : i = j
 ·subst hj
  have hl : i < ds.length := by
   have := (Qa.mp q).1
   simpa using this
  rw [Qs hl] at q
  cases q
 ·rw [Q4 hj] at q
  rw [Q4 hj]
  exact h.2 j e q
def RpX (K : PySem.W.Frag) (cs : List Cn) (c : CS) (e : DErr) (cls : Value) (d : Option Addr) : Prop := cls = .ref (ga K e.c.str) ∧ match e.xs with
 | [] => d = none
 | xs => ∃ dd vs, d = some dd ∧ c.F dd = some (.xd ((e.c.flds.map Fd.str).zip vs)) ∧ RpL K cs c.F xs vs
theorem Rel.fresh {c : CS} {M : Mem} (r : Rel K cs c M) {p : Addr} (h : c.H p = none) : c.F p = none ∧ p ∉ c.ρ :=
 ⟨r.same.free h, fun m => r.isin p m h⟩
theorem Rel.Z88 {c : CS} {M : Mem} (r : Rel K cs c M) {p : Addr} (h : c.H p = none) : ¬ Live c.ρ M p := fun ⟨i, x, e, _⟩ => (r.fresh h).2 (Qp e)
theorem Rel.lay {c : CS} {M : Mem} (r : Rel K cs c M) {p : Addr} (h : c.H p = none) (o : HO) : Rel K cs ⟨upd c.F p o, c.ρ, upd c.H p o⟩ M ∧ Step c M ⟨upd c.F p o, c.ρ, upd c.H p o⟩ M := by
 obtain ⟨hF, hρ⟩ := r.fresh h
 have sF : Same c.F (upd c.F p o) := Za8 hF
 refine ⟨⟨fun b u e => ?_, r.len, r.nd, fun a m => ?_, fun i a x e q => ?_⟩, ⟨sF, Hk _, fun a u h1 h2 h3 => ?_⟩⟩
 ·try dsimp only at *
  by_cases hb : b = p
  ·rw [hb] at e ⊢
   rw [upd_same] at e
   rw [upd_same]
   exact e
  ·rw [upd_ne hb] at e
   rw [upd_ne hb]
   exact r.same b u e
 ·try dsimp only at *
  have hne : a ≠ p := fun q => hρ (q ▸ m)
  rw [upd_ne hne]
  exact r.isin a m
 ·try dsimp only at *
  have hne : a ≠ p := fun q => hρ (q ▸ Qp e)
  obtain ⟨h1, u, h2, h3⟩ := r.live i a x e q
  refine ⟨by rw [upd_ne hne]; exact h1, u, by rw [upd_ne hne]; exact h2, h3.mono sF (Hk _)⟩
 ·try dsimp only at *
  have hne : a ≠ p := fun q => by rw [q, h] at h1; cases h1
  exact ⟨by rw [upd_ne hne]; exact h1, by rw [upd_ne hne]; exact h2, h3⟩
theorem Rel.Zpf {c : CS} {M : Mem} (r : Rel K cs c M) {p : Addr} (h : c.H p = none) (o : HO) : Rel K cs ⟨c.F, c.ρ, upd c.H p o⟩ M ∧ Step c M ⟨c.F, c.ρ, upd c.H p o⟩ M := by
 obtain ⟨hF, hρ⟩ := r.fresh h
 refine ⟨⟨r.same.trans (Za8 h), r.len, r.nd, fun a m => ?_, fun i a x e q => ?_⟩, ⟨Same.refl _, Hk _, fun a u h1 h2 h3 => ?_⟩⟩
 ·try dsimp only at *
  have hne : a ≠ p := fun q => hρ (q ▸ m)
  rw [upd_ne hne]
  exact r.isin a m
 ·try dsimp only at *
  have hne : a ≠ p := fun q => hρ (q ▸ Qp e)
  obtain ⟨h1, u, h2, h3⟩ := r.live i a x e q
  exact ⟨h1, u, by rw [upd_ne hne]; exact h2, h3⟩
 ·try dsimp only at *
  have hne : a ≠ p := fun q => by rw [q, h] at h1; cases h1
  exact ⟨by rw [upd_ne hne]; exact h1, h2, h3⟩
theorem Rel.Zjy {c : CS} {M : Mem} (r : Rel K cs c M) {p : Addr} {u : HO} (h : c.H p = some u) (hF : c.F p = none) (hl : ¬ Live c.ρ M p) (o : HO) : Rel K cs ⟨c.F, c.ρ, upd c.H p o⟩ M := by
 refine ⟨fun b v e => ?_, r.len, r.nd, fun a m => ?_, fun i a x e q => ?_⟩
 ·try dsimp only at *
  have hne : b ≠ p := fun q => by rw [q, hF] at e; cases e
  rw [upd_ne hne]
  exact r.same b v e
 ·try dsimp only at *
  by_cases hb : a = p
  ·rw [hb, upd_same]
   exact fun z => by cases z
  ·rw [upd_ne hb]
   exact r.isin a m
 ·try dsimp only at *
  have hne : a ≠ p := fun z => hl ⟨i, x, z ▸ e, q⟩
  obtain ⟨h1, v, h2, h3⟩ := r.live i a x e q
  exact ⟨h1, v, by rw [upd_ne hne]; exact h2, h3⟩
theorem Rel.Zjz {c : CS} {M : Mem} (r : Rel K cs c M) {p : Addr} {o : HO} (h : c.H p = some o) (hF : c.F p = none) (hl : ¬ Live c.ρ M p) : Rel K cs ⟨upd c.F p o, c.ρ, c.H⟩ M := by
 have sF : Same c.F (upd c.F p o) := Za8 hF
 refine ⟨fun b v e => ?_, r.len, r.nd, r.isin, fun i a x e q => ?_⟩
 ·try dsimp only at *
  by_cases hb : b = p
  ·rw [hb] at e ⊢
   rw [upd_same] at e
   cases e
   exact h
  ·rw [upd_ne hb] at e
   exact r.same b v e
 ·try dsimp only at *
  have hne : a ≠ p := fun z => hl ⟨i, x, z ▸ e, q⟩
  obtain ⟨h1, v, h2, h3⟩ := r.live i a x e q
  exact ⟨by rw [upd_ne hne]; exact h1, v, h2, h3.mono sF (Hk _)⟩
theorem Rel.newc {c : CS} {M : Mem} (r : Rel K cs c M) {p : Addr} (h : c.H p = none) {o : HO} {x : Cell} (q : RpC K cs c.F c.ρ p x o) : Rel K cs ⟨c.F, c.ρ ++ [p], upd c.H p o⟩ (M ++ [some x]) ∧ Step c M ⟨c.F, c.ρ ++ [p], upd c.H p o⟩ (M ++ [some x]) := by
 obtain ⟨hF, hρ⟩ := r.fresh h
 have pr : c.ρ <+: c.ρ ++ [p] := List.prefix_append _ _
 have key : ∀ (i : Nat) (a : Addr) (y : Cell), (c.ρ ++ [p])[i]? = some a → (M ++ [some x])[i]? = some (some y) → (c.ρ[i]? = some a ∧ M[i]? = some (some y)) ∨ (a = p ∧ y = x) := fun i a y e e' => by
  by_cases hi : i < c.ρ.length
  ·rw [Qy hi] at e
   rw [Qy (by rw [← r.len]; exact hi)] at e'
   exact .inl ⟨e, e'⟩
  ·rw [Hu (by omega)] at e
   rw [Hu (by rw [← r.len]; omega), ← r.len] at e'
   have h0 : i - c.ρ.length = 0 := by
    have := (Qa.mp e).1
    simp at this
    omega
   rw [h0] at e e'
   simp at e e'
   exact .inr ⟨e.symm, e'.symm⟩
 refine ⟨⟨r.same.trans (Za8 h), by simp [r.len], ?_, fun a m => ?_, fun i a y e e' => ?_⟩, ⟨Same.refl _, pr, fun a u h1 h2 h3 => ?_⟩⟩
 ·try dsimp only at *
  rw [H9]
  refine ⟨r.nd, by simp, fun a ha b hb e => ?_⟩
  simp at hb
  subst hb e
  exact hρ ha
 ·try dsimp only at *
  by_cases hb : a = p
  ·rw [hb, upd_same]
   exact fun z => by cases z
  ·rw [upd_ne hb]
   rcases Q1.mp m with m | m
   ·exact r.isin a m
   ·simp at m
    exact absurd m hb
 ·try dsimp only at *
  rcases key i a y e e' with ⟨e1, e2⟩ | ⟨rfl, rfl⟩
  ·obtain ⟨h1, u, h2, h3⟩ := r.live i a y e1 e2
   have hne : a ≠ p := fun z => hρ (z ▸ Qp e1)
   exact ⟨h1, u, by rw [upd_ne hne]; exact h2, h3.mono (Same.refl _) pr⟩
  ·exact ⟨hF, o, upd_same, q.mono (Same.refl _) pr⟩
 ·try dsimp only at *
  have hne : a ≠ p := fun q => by rw [q, h] at h1; cases h1
  refine ⟨by rw [upd_ne hne]; exact h1, h2, fun ⟨i, y, e, e'⟩ => ?_⟩
  rcases key i a y e e' with ⟨e1, e2⟩ | ⟨rfl, rfl⟩
  ·exact h3 ⟨i, y, e1, e2⟩
  ·exact hne rfl
theorem Rel.setc {c : CS} {M : Mem} (r : Rel K cs c M) {i : Nat} {a : Addr} {x y : Cell} {o : HO} (e : c.ρ[i]? = some a) (m : M[i]? = some (some x)) (q : RpC K cs c.F c.ρ a y o) : Rel K cs ⟨c.F, c.ρ, upd c.H a o⟩ (M.set i (some y)) ∧ Step c M ⟨c.F, c.ρ, upd c.H a o⟩ (M.set i (some y)) := by
 obtain ⟨hF, u, hH, hq⟩ := r.live i a x e m
 have hiM : i < M.length := (Qa.mp m).1
 refine ⟨⟨fun b v h => ?_, by simp [r.len], r.nd, fun b hb => ?_, fun j b z e' m' => ?_⟩, ⟨Same.refl _, Hk _, fun b v h1 h2 h3 => ?_⟩⟩
 ·try dsimp only at *
  have hne : b ≠ a := fun z => by rw [z, hF] at h; cases h
  rw [upd_ne hne]
  exact r.same b v h
 ·try dsimp only at *
  by_cases hb' : b = a
  ·rw [hb', upd_same]
   exact fun z => by cases z
  ·rw [upd_ne hb']
   exact r.isin b hb
 ·try dsimp only at *
  by_cases hj : i = j
  ·subst hj
   have : a = b := Q0 (e.symm.trans e')
   subst this
   rw [Qs hiM] at m'
   cases m'
   exact ⟨hF, o, upd_same, q⟩
  ·rw [Q4 hj] at m'
   obtain ⟨h1, w, h2, h3⟩ := r.live j b z e' m'
   have hne : b ≠ a := fun q => by
    subst q
    obtain ⟨h4, e4⟩ := Qa.mp e
    obtain ⟨h5, e5⟩ := Qa.mp e'
    exact hj ((List.getElem_inj r.nd).mp (e4.trans e5.symm))
   exact ⟨h1, w, by rw [upd_ne hne]; exact h2, h3⟩
 ·try dsimp only at *
  have hne : b ≠ a := fun z => h3 ⟨i, x, z ▸ e, m⟩
  refine ⟨by rw [upd_ne hne]; exact h1, h2, fun ⟨j, z, e', m'⟩ => ?_⟩
  by_cases hj : i = j
  ·subst hj
   exact hne (Q0 (e'.symm.trans e))
  ·rw [Q4 hj] at m'
   exact h3 ⟨j, z, e', m'⟩
theorem Rel.freeze {c : CS} {M : Mem} (r : Rel K cs c M) {i : Nat} {a : Addr} {x : Cell} (e : c.ρ[i]? = some a) (m : M[i]? = some (some x)) : ∃ o, c.H a = some o ∧ RpC K cs c.F c.ρ a x o ∧ c.F a = none ∧ Rel K cs ⟨upd c.F a o, c.ρ, c.H⟩ (M.set i none) ∧ Step c M ⟨upd c.F a o, c.ρ, c.H⟩ (M.set i none) := by
 obtain ⟨hF, o, hH, hq⟩ := r.live i a x e m
 have hiM : i < M.length := (Qa.mp m).1
 have sF : Same c.F (upd c.F a o) := Za8 hF
 refine ⟨o, hH, hq, hF, ⟨fun b v h => ?_, by simp [r.len], r.nd, r.isin, fun j b z e' m' => ?_⟩, ⟨sF, Hk _, fun b v h1 h2 h3 => ?_⟩⟩
 ·try dsimp only at *
  by_cases hb : b = a
  ·rw [hb] at h ⊢
   rw [upd_same] at h
   cases h
   exact hH
  ·rw [upd_ne hb] at h
   exact r.same b v h
 ·try dsimp only at *
  by_cases hj : i = j
  ·subst hj
   rw [Qs hiM] at m'
   cases m'
  ·rw [Q4 hj] at m'
   obtain ⟨h1, w, h2, h3⟩ := r.live j b z e' m'
   have hne : b ≠ a := fun q => by
    subst q
    obtain ⟨h4, e4⟩ := Qa.mp e
    obtain ⟨h5, e5⟩ := Qa.mp e'
    exact hj ((List.getElem_inj r.nd).mp (e4.trans e5.symm))
   exact ⟨by rw [upd_ne hne]; exact h1, w, h2, h3.mono sF (Hk _)⟩
 ·try dsimp only at *
  have hne : b ≠ a := fun z => h3 ⟨i, x, z ▸ e, m⟩
  refine ⟨h1, by rw [upd_ne hne]; exact h2, fun ⟨j, z, e', m'⟩ => ?_⟩
  by_cases hj : i = j
  ·subst hj
   rw [Qs hiM] at m'
   cases m'
  ·rw [Q4 hj] at m'
   exact h3 ⟨j, z, e', m'⟩
def Za2 : List D → Option (List PV)
 | [] => some []
 | .v x :: r => (Za2 r).map (x :: ·)
 | .cell _ :: _ => none
 | .exn _ :: _ => none
theorem Zby (xs : List PV) : Za2 (xs.map D.v) = some xs := by
 induction xs with
 | nil => rfl
 | cons x r ih =>
  show (Za2 (r.map D.v)).map (x :: ·) = _
  rw [ih]
  rfl
theorem Zfe : ∀ {ds : List D} {xs : List PV}, Za2 ds = some xs → ds = xs.map D.v
 | [], xs, h => by cases h; rfl
 | .v x :: r, xs, h => by
  cases q : Za2 r with
  | none =>
   have : (Za2 r).map (x :: ·) = some xs := h
   rw [q] at this
   cases this
  | some ys =>
   have : (Za2 r).map (x :: ·) = some xs := h
   rw [q] at this
   cases this
   rw [Zfe q]
   rfl
 | .cell _ :: _, xs, h => by cases h
 | .exn _ :: _, xs, h => by cases h
theorem A2.pure {ρ : List Addr} : ∀ {xs : List PV} {vs : List V}, A2 (RpD K cs F ρ) (xs.map D.v) vs → RpL K cs F xs vs
 | [], _, h => by cases h; exact (rfl : ([] : List V) = [])
 | x :: xs, _, h => by
  cases h with
  | cons r t => exact ⟨_, _, rfl, r, A2.pure t⟩
theorem RpL.ds {ρ : List Addr} : ∀ {xs : List PV} {vs : List V}, RpL K cs F xs vs → A2 (RpD K cs F ρ) (xs.map D.v) vs
 | [], _, h => by cases (show _ = [] from h); exact .nil
 | x :: xs, _, ⟨v, ws, e, h1, h2⟩ => by cases e; exact .cons h1 (RpL.ds h2)
def Cell.low (n : Nat) : Cell → Prop
 | .lst ds | .obj _ ds | .tpl ds => ∀ i, D.cell i ∈ ds → i < n
 | .dct ds => ∀ k i, (k, D.cell i) ∈ ds → i < n
 | .dtt ds => ∀ k i, (k, D.cell i) ∈ ds → i < n
 | .dnn es => ∀ k z i, (k, z, D.cell i) ∈ es → i < n
theorem RpD.low {ρ : List Addr} {n : Nat} {d : D} {v : V} (h : RpD K cs F ρ d v) (hl : ∀ i, d = .cell i → i < n) : RpD K cs F (ρ.take n) d v := by
 cases d with
 | v x => exact h
 | cell i =>
  obtain ⟨a, e, q⟩ := h
  exact ⟨a, by rw [Hd (hl i rfl)]; exact e, q⟩
 | exn a => exact h
theorem A2.impM {α β : Type} {R S : α → β → Prop} : ∀ {as : List α} {bs : List β}, A2 R as bs → (∀ a ∈ as, ∀ b, R a b → S a b) → A2 S as bs
 | _, _, .nil, _ => .nil
 | _, _, .cons r t, f => .cons (f _ Qo _ r) (t.impM fun a m => f a (Qk _ m))
theorem RpC.low {ρ : List Addr} {n : Nat} {a : Addr} : ∀ {x : Cell} {o : HO}, RpC K cs F ρ a x o → x.low n → RpC K cs F (ρ.take n) a x o
 | .lst _, _, ⟨vs, e, h⟩, l => ⟨vs, e, h.impM fun d m v r => r.low fun i q => l i (q ▸ m)⟩
 | .obj _ _, _, ⟨dx, vs, e, h1, h3, h2⟩, l => ⟨dx, vs, e, h1, h3, h2.impM fun d m v r => r.low fun i q => l i (q ▸ m)⟩
 | .dct _, _, ⟨vs, e, h⟩, l => ⟨vs, e, h.impM fun d m v r => ⟨r.1, r.2.low fun i q => l d.1 i (by rw [← q]; exact m)⟩⟩
 | .dtt _, _, ⟨vs, e, h⟩, l => ⟨vs, e, h.impM fun d m v r => ⟨r.1, r.2.low fun i q => l d.1 i (by rw [← q]; exact m)⟩⟩
 | .tpl _, _, ⟨vs, e, h⟩, l => ⟨vs, e, h.impM fun d m v r => r.low fun i q => l i (q ▸ m)⟩
 | .dnn _, _, ⟨vs, e, h0, h⟩, l => ⟨vs, e, h0, h.impM fun d m v r => ⟨r.1, r.2.1, r.2.2.low fun i q => l d.1 d.2.1 i (by rw [← q]; exact m)⟩⟩
theorem RpC.Ycl {ρ : List Addr} {a : Addr} : ∀ {x : Cell} {o : HO}, RpC K cs F ρ a x o → x.low ρ.length := by
 have key : ∀ {ds : List D} {vs : List V}, A2 (RpD K cs F ρ) ds vs → ∀ i, D.cell i ∈ ds → i < ρ.length := by
  intro ds vs h
  induction h with
  | nil => intro i m; cases m
  | cons r t ih =>
   intro i m
   rcases Qg.mp m with e | m
   ·subst e
    obtain ⟨a, e, _⟩ := r
    exact (Qa.mp e).1
   ·exact ih i m
 have keyK : ∀ {κ : Type} {ds : List (κ × D)} {vs : List (κ × V)}, A2 (RpKD K cs F ρ) ds vs → ∀ k i, (k, D.cell i) ∈ ds → i < ρ.length := by
  intro κ ds vs h
  induction h with
  | nil => intro k i m; cases m
  | cons r t ih =>
   intro k i m
   rcases Qg.mp m with e | m
   ·obtain ⟨_, r⟩ := r
    rw [← e] at r
    obtain ⟨a, e, _⟩ := r
    exact (Qa.mp e).1
   ·exact ih k i m
 intro x o h
 cases x with
 | lst ds => obtain ⟨vs, e, h⟩ := h; exact key h
 | obj c ds => obtain ⟨dx, vs, e, h1, h3, h⟩ := h; exact key h
 | dct ds => obtain ⟨vs, e, h⟩ := h; exact keyK h
 | dtt ds => obtain ⟨vs, e, h⟩ := h; exact keyK h
 | tpl ds => obtain ⟨vs, e, h⟩ := h; exact key h
 | dnn es =>
  obtain ⟨ys, e, h0, h⟩ := h
  intro k z i m
  have keyN : ∀ {es : List (PV × Int × D)} {ys : List (Int × Addr × V)}, A2 (RpN K cs F ρ) es ys → ∀ k z i, (k, z, D.cell i) ∈ es → i < ρ.length := by
   intro es ys h
   induction h with
   | nil => intro k z i m; cases m
   | cons r t ih =>
    intro k z i m
    rcases Qg.mp m with e | m
    ·obtain ⟨_, _, r⟩ := r
     rw [← e] at r
     obtain ⟨b, e, _⟩ := r
     exact (Qa.mp e).1
    ·exact ih k z i m
  exact keyN h k z i m
def Exit (M M' : Mem) : Prop := M.length ≤ M'.length ∧ ∀ (i : Nat) (x : Cell), i < M.length → M'[i]? = some (some x) → M[i]? = some (some x) ∨ x.low M.length
theorem Rel.cut {c c' : CS} {M M' : Mem} (r : Rel K cs c M) (r' : Rel K cs c' M') (s : Step c M c' M') (ex : Exit M M') : Rel K cs ⟨c'.F, c'.ρ.take M.length, c'.H⟩ (M'.take M.length) ∧ Step c M ⟨c'.F, c'.ρ.take M.length, c'.H⟩ (M'.take M.length) ∧ c'.ρ.take M.length = c.ρ := by
 have eρ : c'.ρ.take M.length = c.ρ := by
  obtain ⟨t, e⟩ := s.pre
  rw [← e, ← r.len, Hv]
  rfl
 have hlen : M.length ≤ c'.ρ.length := by rw [r'.len]; exact ex.1
 refine ⟨⟨r'.same, ?_, ?_, fun a m => r'.isin a (Gn m), fun i a x e m => ?_⟩, ⟨s.same, by show c.ρ <+: c'.ρ.take M.length; rw [eρ]; exact Hk _, fun a o h1 h2 h3 => ?_⟩, eρ⟩
 ·show (c'.ρ.take M.length).length = (M'.take M.length).length
  rw [Q5, Q5, r'.len]
 ·exact r'.nd.sublist (Lw _ _)
 ·have hi : i < M.length := by
   have h := (Qa.mp m).1
   rw [Q5] at h
   omega
  have e1 : c'.ρ[i]? = some a := by
   have : (c'.ρ.take M.length)[i]? = some a := e
   rw [Hd hi] at this
   exact this
  have m1 : M'[i]? = some (some x) := by
   rw [Hd hi] at m
   exact m
  obtain ⟨h1, o, h2, h3⟩ := r'.live i a x e1 m1
  refine ⟨h1, o, h2, ?_⟩
  show RpC K cs c'.F (c'.ρ.take M.length) a x o
  rcases ex.2 i x hi m1 with q | q
  ·have e0 : c.ρ[i]? = some a := by
    have : (c'.ρ.take M.length)[i]? = some a := e
    rw [eρ] at this
    exact this
   obtain ⟨_, o', _, h5⟩ := r.live i a x e0 q
   have hl := h5.Ycl
   rw [r.len] at hl
   exact h3.low hl
  ·exact h3.low q
 ·obtain ⟨g1, g2, g3⟩ := s.frame a o h1 h2 h3
  refine ⟨g1, g2, fun ⟨i, x, e, m⟩ => g3 ⟨i, x, ?_, ?_⟩⟩
  ·exact Qp e |> fun _ => by
    have hi : i < M.length := by
     have h := (Qa.mp m).1
     rw [Q5] at h
     omega
    have : (c'.ρ.take M.length)[i]? = some a := e
    rw [Hd hi] at this
    exact this
  ·have hi : i < M.length := by
    have h := (Qa.mp m).1
    rw [Q5] at h
    omega
   rw [Hd hi] at m
   exact m
end
class Wg (g : Prop) (n : outParam Prop) : Prop where
 go : n → g
abbrev DQ := D → Mem → Prop
abbrev DE := DSt → Mem → DQ → Prop
abbrev DT := DSt → Mem → (Bool → Mem → Prop) → Prop
abbrev DA := DSt → Mem → (List D → Mem → Prop) → Prop
structure Zfi where
 nx : DSt → Mem → Prop
 rt : DQ
 bk : DSt → Mem → Prop := fun _ _ => False
 ct : DSt → Mem → Prop := fun _ _ => False
abbrev DS := Zfi → DSt → Mem → Prop
abbrev DG := D → DSt → Mem → (DSt → Mem → Prop) → Prop
abbrev DGs := List D → DSt → Mem → (DSt → Mem → Prop) → Prop
abbrev DI := DSt → Mem → (List D → Mem → Prop) → Prop
abbrev DO := DSt → Mem → (Option Int → Mem → Prop) → Prop
abbrev DX := DErr → Mem → Prop
abbrev DSp := List D → Mem → DQ → DX → Prop
abbrev DR2 := D → D → Mem → DQ → Prop
abbrev DR := List D → Mem → DQ → Prop
abbrev DM := D → List D → Mem → DQ → Prop
structure Sc where
 K : PySem.W.Frag
 cs : List Cn
 c0 : CS
 M0 : Mem
structure Sc.Ok (S : Sc) (c : CS) (M : Mem) : Prop where
 st : Step S.c0 S.M0 c M
 rl : Rel S.K S.cs c M
theorem Sc.Ok.step {S : Sc} {c c' : CS} {M M' : Mem} (h : S.Ok c M) (s : Step c M c' M') (r : Rel S.K S.cs c' M') : S.Ok c' M' := ⟨h.st.trans s, r⟩
def PoE (S : Sc) (c : CS) (M : Mem) (Qd : DQ) (Q : VK) : Prop := ∀ c' M' v d, Step c M c' M' → Rel S.K S.cs c' M' → RpD S.K S.cs c'.F c'.ρ d v → Qd d M' → Q v c'.H
def PoT (S : Sc) (c : CS) (M : Mem) (Qd : Bool → Mem → Prop) (Q : Bool → Hp → Prop) : Prop := ∀ c' M' b, Step c M c' M' → Rel S.K S.cs c' M' → Qd b M' → Q b c'.H
def PoA (S : Sc) (c : CS) (M : Mem) (Qd : List D → Mem → Prop) (Q : List V → Hp → Prop) : Prop := ∀ c' M' vs ds, Step c M c' M' → Rel S.K S.cs c' M' → A2 (RpD S.K S.cs c'.F c'.ρ) ds vs → Qd ds M' → Q vs c'.H
def PoS (S : Sc) (c : CS) (M : Mem) (Qd : DSt → Mem → Prop) (Q : L2.St → Hp → Prop) : Prop := ∀ c' M' σ' ds', Step c M c' M' → Rel S.K S.cs c' M' → RpS S.K S.cs c' ds' σ' → Qd ds' M' → Q σ' c'.H
def PoX (S : Sc) (c : CS) (M : Mem) (Qd : DX) (Q : XK) : Prop := ∀ c' M' cls d e, Step c M c' M' → Rel S.K S.cs c' M' → RpX S.K S.cs c' e cls d → Qd e M' → Q cls d c'.H
theorem PoE.step {S : Sc} {c c1 : CS} {M M1 : Mem} {Qd : DQ} {Q : VK} (h : PoE S c M Qd Q) (s : Step c M c1 M1) : PoE S c1 M1 Qd Q := fun c' M' v d s' => h c' M' v d (s.trans s')
theorem PoT.step {S : Sc} {c c1 : CS} {M M1 : Mem} {Qd : Bool → Mem → Prop} {Q : Bool → Hp → Prop} (h : PoT S c M Qd Q) (s : Step c M c1 M1) : PoT S c1 M1 Qd Q := fun c' M' v s' => h c' M' v (s.trans s')
theorem PoA.step {S : Sc} {c c1 : CS} {M M1 : Mem} {Qd : List D → Mem → Prop} {Q : List V → Hp → Prop} (h : PoA S c M Qd Q) (s : Step c M c1 M1) : PoA S c1 M1 Qd Q := fun c' M' v d s' => h c' M' v d (s.trans s')
theorem PoS.step {S : Sc} {c c1 : CS} {M M1 : Mem} {Qd : DSt → Mem → Prop} {Q : L2.St → Hp → Prop} (h : PoS S c M Qd Q) (s : Step c M c1 M1) : PoS S c1 M1 Qd Q := fun c' M' v d s' => h c' M' v d (s.trans s')
theorem PoX.step {S : Sc} {c c1 : CS} {M M1 : Mem} {Qd : DX} {Q : XK} (h : PoX S c M Qd Q) (s : Step c M c1 M1) : PoX S c1 M1 Qd Q := fun c' M' v d e s' => h c' M' v d e (s.trans s')
structure PoD (S : Sc) (c : CS) (M : Mem) (Dd : Zfi) (D' : Ends) : Prop where
 nx : PoS S c M Dd.nx D'.nx
 rt : PoE S c M Dd.rt D'.rt
 bk : PoS S c M Dd.bk D'.bk
 ct : PoS S c M Dd.ct D'.ct
theorem PoD.step {S : Sc} {c c1 : CS} {M M1 : Mem} {Qd : Zfi} {Q : Ends} (h : PoD S c M Qd Q) (s : Step c M c1 M1) : PoD S c1 M1 Qd Q := ⟨h.nx.step s, h.rt.step s, h.bk.step s, h.ct.step s⟩
abbrev Sc.St (S : Sc) (c : CS) (ds : DSt) (σ : L2.St) : Prop := RpS S.K S.cs c ds σ
abbrev Sc.Vd (S : Sc) (c : CS) (d : D) (v : V) : Prop := RpD S.K S.cs c.F c.ρ d v
abbrev Sc.Ld (S : Sc) (c : CS) (ds : List D) (vs : List V) : Prop := A2 (RpD S.K S.cs c.F c.ρ) ds vs
theorem Sc.Vd.step {S : Sc} {c c' : CS} {M M' : Mem} {d : D} {v : V} (h : S.Vd c d v) (s : Step c M c' M') : S.Vd c' d v := RpD.mono s.same s.pre h
theorem Sc.Ld.step {S : Sc} {c c' : CS} {M M' : Mem} {d : List D} {v : List V} (h : S.Ld c d v) (s : Step c M c' M') : S.Ld c' d v := h.imp fun _ _ r => RpD.mono s.same s.pre r
def SimE (S : Sc) (te : TE) (de : DE) : Prop := ∀ c M σ ds Q Qd, S.Ok c M → S.St c ds σ → de ds M Qd → PoE S c M Qd Q → te σ c.H Q
def SimT (S : Sc) (te : TT) (de : DT) : Prop := ∀ c M σ ds Q Qd, S.Ok c M → S.St c ds σ → de ds M Qd → PoT S c M Qd Q → te σ c.H Q
def SimA (S : Sc) (te : TA) (de : DA) : Prop := ∀ c M σ ds Q Qd, S.Ok c M → S.St c ds σ → de ds M Qd → PoA S c M Qd Q → te σ c.H Q
def SimS (S : Sc) (te : TS) (de : DS) : Prop := ∀ c M σ ds D' Dd, S.Ok c M → S.St c ds σ → de Dd ds M → PoD S c M Dd D' → te D' σ c.H
def SimG (S : Sc) (g : TG) (dg : DG) : Prop := ∀ c M σ ds x v Q Qd, S.Ok c M → S.St c ds σ → S.Vd c x v → dg x ds M Qd → PoS S c M Qd Q → g v σ c.H Q
def Z3k (S : Sc) (g : TGs) (dg : DGs) : Prop := ∀ c M σ ds x v Q Qd, S.Ok c M → S.St c ds σ → S.Ld c x v → dg x ds M Qd → PoS S c M Qd Q → g v σ c.H Q
def SimO (S : Sc) (r : R2) (dr : DR2) : Prop := ∀ c M x y dx dy Q Qd, S.Ok c M → S.Vd c dx x → S.Vd c dy y → dr dx dy M Qd → PoE S c M Qd Q → r x y c.H Q
def SimU (S : Sc) (r : V → Hp → VK → Prop) (dr : D → Mem → DQ → Prop) : Prop := ∀ c M x dx Q Qd, S.Ok c M → S.Vd c dx x → dr dx M Qd → PoE S c M Qd Q → r x c.H Q
def SimR (S : Sc) (r : List V → Hp → VK → Prop) (dr : DR) : Prop := ∀ c M vs ds Q Qd, S.Ok c M → S.Ld c ds vs → dr ds M Qd → PoE S c M Qd Q → r vs c.H Q
def SimM (S : Sc) (r : V → List V → Hp → VK → Prop) (dr : DM) : Prop := ∀ c M x dx vs ds Q Qd, S.Ok c M → S.Vd c dx x → S.Ld c ds vs → dr dx ds M Qd → PoE S c M Qd Q → r x vs c.H Q
def SimP (S : Sc) (t : TO) (d : DO) : Prop := ∀ c M σ ds Q Qd, S.Ok c M → S.St c ds σ → d ds M Qd → (∀ c' M' o, Step c M c' M' → Rel S.K S.cs c' M' → Qd o M' → Q o c'.H) → t σ c.H Q
def SimL (S : Sc) (r : V → Option Int → Option Int → Hp → VK → Prop) (dr : D → Option Int → Option Int → Mem → DQ → Prop) : Prop := ∀ c M x dx lo hi Q Qd, S.Ok c M → S.Vd c dx x → dr dx lo hi M Qd → PoE S c M Qd Q → r x lo hi c.H Q
def Wk (S : Sc) (c : CS) (J : It) (xs : List D) : Prop := ∀ (i : Nat) c' M', Same c.F c'.F → c.ρ <+: c'.ρ → Rel S.K S.cs c' M' → (xs.length = i → J.stop i c'.H) ∧ ∀ d, xs[i]? = some d → J.go i c'.H ∧ ∀ x H', J.yld i c'.H x H' → ∃ c'', c''.H = H' ∧ Step c' M' c'' M' ∧ Rel S.K S.cs c'' M' ∧ S.Vd c'' d x
def SimI (S : Sc) (t : TI) (d : DI) : Prop := ∀ c M σ ds R Rd, S.Ok c M → S.St c ds σ → d ds M Rd → (∀ c' M' J xs, Step c M c' M' → Rel S.K S.cs c' M' → Wk S c' J xs → Rd xs M' → R J c'.H) → t σ c.H R
def dVar (i : Nat) : DE := fun ds M Q => ∃ d, ds[i]? = some (some d) ∧ Q d M
def dC (x : PV) : DE := fun _ M Q => Q (.v x) M
def dOp (r : DR2) (a b : DE) : DE := fun ds M Q => a ds M fun x M1 => b ds M1 fun y M2 => r x y M2 Q
def dUn (r : D → Mem → DQ → Prop) (a : DE) : DE := fun ds M Q => a ds M fun x M1 => r x M1 Q
def dNil : DA := fun _ M Q => Q [] M
def Zaa (a : DE) (r : DA) : DA := fun ds M Q => a ds M fun x M1 => r ds M1 fun xs M2 => Q (x :: xs) M2
def dCB (r : DR) (a : DA) : DE := fun ds M Q => a ds M fun xs M1 => r xs M1 Q
def Zae (a : DE) : DT := fun ds M Q => a ds M fun x M1 => ∃ k, x = .v (.bl k) ∧ Q k M1
def dNot (t : DT) : DT := fun ds M Q => t ds M fun b M1 => Q (!b) M1
def dAnd (t u : DT) : DT := fun ds M Q => t ds M fun b M1 => if b = true then u ds M1 Q else Q false M1
def dOr (t u : DT) : DT := fun ds M Q => t ds M fun b M1 => if b = true then Q true M1 else u ds M1 Q
def Zru (a b : DE) : DE := fun ds M Q => a ds M fun x M1 => ∃ k, x = .v (.bl k) ∧ if k = true then b ds M1 Q else Q (.v (.bl false)) M1
def dOrV (a b : DE) : DE := fun ds M Q => a ds M fun x M1 => ∃ k, x = .v (.bl k) ∧ if k = true then Q (.v (.bl true)) M1 else b ds M1 Q
def Yd7 (a : DE) : DE := fun ds M Q => a ds M fun x M1 => ∃ k, x = .v (.bl k) ∧ Q (.v (.bl (!k))) M1
def dIf (t : DT) (a b : DE) : DE := fun ds M Q => t ds M fun k M1 => if k = true then a ds M1 Q else b ds M1 Q
def Zaf : DS := fun E ds M => E.nx ds M
def dSeq (t u : DS) : DS := fun E ds M => ∃ N : DSt → Mem → Prop, t { E with nx := N } ds M ∧ ∀ ds' M', N ds' M' → u E ds' M'
def dCut (t u : DS) : DS := dSeq t u
def Zf4 (a : DE) : DS := fun E ds M => a ds M fun _ M1 => E.nx ds M1
def dRet (a : DE) : DS := fun E ds M => a ds M E.rt
def Ygx : DS := fun E _ M => E.rt (.v .non) M
def dIfS (t : DT) (a b : DS) : DS := fun E ds M => t ds M fun k M1 => if k = true then a E ds M1 else b E ds M1
def dAsg (a : DE) (g : DG) : DS := fun E ds M => a ds M fun x M1 => g x ds M1 E.nx
def hName (i : Nat) : DG := fun x ds M Q => Q (ds.set i (some x)) M
def hNil : DGs := fun xs ds M Q => xs = [] ∧ Q ds M
def Zjp (g : DG) (r : DGs) : DGs := fun xs ds M Q => ∃ x ys, xs = x :: ys ∧ g x ds M fun ds' M' => r ys ds' M' Q
def hTup (n : Nat) (r : DGs) : DG := fun x ds M Q => ∃ ys, x = .v (.tup ys) ∧ ys.length = n ∧ r (ys.map D.v) ds M Q
def Zci : DO := fun _ M Q => Q none M
def Zej (a : DE) : DO := fun ds M Q => a ds M fun x M1 => ∃ i, x = .v (.int i) ∧ Q (some i) M1
def dSl (r : D → Option Int → Option Int → Mem → DQ → Prop) (a : DE) (l h : DO) : DE := fun ds M Q => a ds M fun x M1 => l ds M1 fun lo M2 => h ds M2 fun hi M3 => r x lo hi M3 Q
section
variable {S : Sc}
variable {te ta tb : TE} {da db de : DE} {tt tu : TT} {dt du : DT} {tr : TA} {dr : DA} {ts us : TS} {dss dus : DS}
theorem Zah {i : Nat} : SimE S (tVar i) (dVar i) := fun c M σ ds Q Qd ok rs ⟨d, e, q⟩ po => let ⟨v, h1, h2⟩ := rs.2 i d e; ⟨v, h1, po c M v d (Step.refl _ _) ok.rl h2 q⟩
theorem Zp4 {v : V} {x : PV} (h : ∀ F, Rp S.K S.cs F x v) : SimE S (tC v) (dC x) := fun c M σ ds Q Qd ok rs q po => po c M v (.v x) (Step.refl _ _) ok.rl (h c.F) q
theorem Zhn {r : R2} {d : DR2} (hr : SimO S r d) (ha : SimE S ta da) (hb : SimE S tb db) : SimE S (tOp r ta tb) (dOp d da db) := fun c M σ ds Q Qd ok rs q po =>
 ha c M σ ds _ _ ok rs q fun c1 M1 v1 d1 s1 r1 p1 q1 => hb c1 M1 σ ds _ _ (ok.step s1 r1) (rs.step s1) q1 fun c2 M2 v2 d2 s2 r2 p2 q2 =>
  hr c2 M2 v1 v2 d1 d2 _ _ ((ok.step s1 r1).step s2 r2) (Sc.Vd.step p1 s2) p2 q2 (po.step (s1.trans s2))
theorem Z0h {r : V → Hp → VK → Prop} {d : D → Mem → DQ → Prop} (hr : SimU S r d) (ha : SimE S ta da) : SimE S (tUn r ta) (dUn d da) := fun c M σ ds Q Qd ok rs q po =>
 ha c M σ ds _ _ ok rs q fun c1 M1 v1 d1 s1 r1 p1 q1 => hr c1 M1 v1 d1 _ _ (ok.step s1 r1) p1 q1 (po.step s1)
theorem Zl1 : SimA S tNil dNil := fun c M σ ds Q Qd ok rs q po => po c M [] [] (Step.refl _ _) ok.rl .nil q
theorem Zhp (ha : SimE S ta da) (hr : SimA S tr dr) : SimA S (tCons ta tr) (Zaa da dr) := fun c M σ ds Q Qd ok rs q po =>
 ha c M σ ds _ _ ok rs q fun c1 M1 v1 d1 s1 r1 p1 q1 => hr c1 M1 σ ds _ _ (ok.step s1 r1) (rs.step s1) q1 fun c2 M2 v2 d2 s2 r2 p2 q2 =>
  po c2 M2 _ _ (s1.trans s2) r2 (.cons (Sc.Vd.step p1 s2) p2) q2
theorem Z0q {r : List V → Hp → VK → Prop} {d : DR} (hr : SimR S r d) (ha : SimA S tr dr) : SimE S (tCB r tr) (dCB d dr) := fun c M σ ds Q Qd ok rs q po =>
 ha c M σ ds _ _ ok rs q fun c1 M1 v1 d1 s1 r1 p1 q1 => hr c1 M1 v1 d1 _ _ (ok.step s1 r1) p1 q1 (po.step s1)
theorem Zf8 (ha : SimE S ta da) : SimT S (tTest ta) (Zae da) := fun c M σ ds Q Qd ok rs q po =>
 ha c M σ ds _ _ ok rs q fun c1 M1 v1 d1 s1 r1 p1 ⟨k, e, q1⟩ => by
  subst e
  cases (show v1 = .bl k from p1)
  exact ⟨k, rfl, po c1 M1 k s1 r1 q1⟩
theorem Zl0 (ha : SimT S tt dt) : SimT S (tNot tt) (dNot dt) := fun c M σ ds Q Qd ok rs q po =>
 ha c M σ ds _ _ ok rs q fun c1 M1 b s1 r1 q1 => po c1 M1 _ s1 r1 q1
theorem Zp6 (ha : SimT S tt dt) (hb : SimT S tu du) : SimT S (tAnd tt tu) (dAnd dt du) := fun c M σ ds Q Qd ok rs q po =>
 ha c M σ ds _ _ ok rs q fun c1 M1 b s1 r1 q1 => by
  cases b with
  | true => exact hb c1 M1 σ ds _ _ (ok.step s1 r1) (rs.step s1) q1 (po.step s1)
  | false => exact po c1 M1 false s1 r1 q1
theorem Zst (ha : SimT S tt dt) (hb : SimT S tu du) : SimT S (tOr tt tu) (dOr dt du) := fun c M σ ds Q Qd ok rs q po =>
 ha c M σ ds _ _ ok rs q fun c1 M1 b s1 r1 q1 => by
  cases b with
  | true => exact po c1 M1 true s1 r1 q1
  | false => exact hb c1 M1 σ ds _ _ (ok.step s1 r1) (rs.step s1) q1 (po.step s1)
theorem Zp5 (ha : SimE S ta da) (hb : SimE S tb db) : SimE S (tAndV ta tb) (Zru da db) := fun c M σ ds Q Qd ok rs q po =>
 ha c M σ ds _ _ ok rs q fun c1 M1 v1 d1 s1 r1 p1 ⟨k, e, q1⟩ => by
  subst e
  cases (show v1 = .bl k from p1)
  refine ⟨k, rfl, ?_⟩
  cases k with
  | true => exact hb c1 M1 σ ds _ _ (ok.step s1 r1) (rs.step s1) q1 (po.step s1)
  | false => exact po c1 M1 _ (.v (.bl false)) s1 r1 rfl q1
theorem Z8l (ha : SimE S ta da) (hb : SimE S tb db) : SimE S (tOrV ta tb) (dOrV da db) := fun c M σ ds Q Qd ok rs q po =>
 ha c M σ ds _ _ ok rs q fun c1 M1 v1 d1 s1 r1 p1 ⟨k, e, q1⟩ => by
  subst e
  cases (show v1 = .bl k from p1)
  refine ⟨k, rfl, ?_⟩
  cases k with
  | true => exact po c1 M1 _ (.v (.bl true)) s1 r1 rfl q1
  | false => exact hb c1 M1 σ ds _ _ (ok.step s1 r1) (rs.step s1) q1 (po.step s1)
theorem Z38 (ha : SimE S ta da) : SimE S (tNotV ta) (Yd7 da) := fun c M σ ds Q Qd ok rs q po =>
 ha c M σ ds _ _ ok rs q fun c1 M1 v1 d1 s1 r1 p1 ⟨k, e, q1⟩ => by
  subst e
  cases (show v1 = .bl k from p1)
  exact ⟨k, rfl, po c1 M1 _ (.v (.bl (!k))) s1 r1 rfl q1⟩
theorem Z0o (hc : SimT S tt dt) (ha : SimE S ta da) (hb : SimE S tb db) : SimE S (tIf tt ta tb) (dIf dt da db) := fun c M σ ds Q Qd ok rs q po =>
 hc c M σ ds _ _ ok rs q fun c1 M1 b s1 r1 q1 => by
  cases b with
  | true => exact ha c1 M1 σ ds _ _ (ok.step s1 r1) (rs.step s1) q1 (po.step s1)
  | false => exact hb c1 M1 σ ds _ _ (ok.step s1 r1) (rs.step s1) q1 (po.step s1)
theorem Zde : SimS S tNext Zaf := fun c M σ ds E Ed ok rs q po => po.nx c M σ ds (Step.refl _ _) ok.rl rs q
theorem Zao (ha : SimS S ts dss) (hb : SimS S us dus) : SimS S (tSeq ts us) (dSeq dss dus) := fun c M σ ds E Ed ok rs ⟨N, q, k⟩ po =>
 ha c M σ ds _ _ ok rs q ⟨fun c1 M1 σ1 ds1 s1 r1 p1 q1 => hb c1 M1 σ1 ds1 _ _ (ok.step s1 r1) p1 (k _ _ q1) (po.step s1), po.rt, po.bk, po.ct⟩
theorem Zp3 (ha : SimS S ts dss) (hb : SimS S us dus) : SimS S (tSeq ts us) (dCut dss dus) := Zao ha hb
theorem Zdf (ha : SimE S ta da) : SimS S (tDrop ta) (Zf4 da) := fun c M σ ds E Ed ok rs q po =>
 ha c M σ ds _ _ ok rs q fun c1 M1 v1 d1 s1 r1 p1 q1 => po.nx c1 M1 σ ds s1 r1 (rs.step s1) q1
theorem Zgu (ha : SimE S ta da) : SimS S (tRet ta) (dRet da) := fun c M σ ds E Ed ok rs q po => ha c M σ ds _ _ ok rs q po.rt
theorem Z37 : SimS S tRetN Ygx := fun c M σ ds E Ed ok rs q po => po.rt c M _ (.v .non) (Step.refl _ _) ok.rl rfl q
theorem Zen (hc : SimT S tt dt) (ha : SimS S ts dss) (hb : SimS S us dus) : SimS S (tIfS tt ts us) (dIfS dt dss dus) := fun c M σ ds E Ed ok rs q po =>
 hc c M σ ds _ _ ok rs q fun c1 M1 b s1 r1 q1 => by
  cases b with
  | true => exact ha c1 M1 σ ds _ _ (ok.step s1 r1) (rs.step s1) q1 (po.step s1)
  | false => exact hb c1 M1 σ ds _ _ (ok.step s1 r1) (rs.step s1) q1 (po.step s1)
theorem Zl6 {g : TG} {dg : DG} (ha : SimE S ta da) (hg : SimG S g dg) : SimS S (tAsg ta g) (dAsg da dg) := fun c M σ ds E Ed ok rs q po =>
 ha c M σ ds _ _ ok rs q fun c1 M1 v1 d1 s1 r1 p1 q1 => hg c1 M1 σ ds d1 v1 _ _ (ok.step s1 r1) (rs.step s1) p1 q1 (po.nx.step s1)
theorem Zho {i : Nat} : SimG S (gName i) (hName i) := fun c M σ ds x v Q Qd ok rs rv q po => po c M _ _ (Step.refl _ _) ok.rl (rs.set rv) q
theorem Zpz : Z3k S gNil hNil := fun c M σ ds x v Q Qd ok rs rv ⟨e, q⟩ po => by
 subst e
 cases rv
 exact ⟨rfl, po c M _ _ (Step.refl _ _) ok.rl rs q⟩
theorem Zl3 {g : TG} {dg : DG} {gs : TGs} {dgs : DGs} (hg : SimG S g dg) (hs : Z3k S gs dgs) : Z3k S (gCons g gs) (Zjp dg dgs) := fun c M σ ds x v Q Qd ok rs rv ⟨y, ys, e, q⟩ po => by
 subst e
 cases rv with
 | cons r1 r2 => exact ⟨_, _, rfl, hg c M σ ds _ _ _ _ ok rs r1 q fun c1 M1 σ1 ds1 s1 r1 p1 q1 => hs c1 M1 σ1 ds1 _ _ _ _ (ok.step s1 r1) p1 (Sc.Ld.step r2 s1) q1 (po.step s1)⟩
theorem Zpx {n : Nat} {gs : TGs} {dgs : DGs} (hs : Z3k S gs dgs) : SimG S (gTup S.K n gs) (hTup n dgs) := fun c M σ ds x v Q Qd ok rs rv ⟨ys, e, hl, q⟩ po => by
 subst e
 obtain ⟨a, vs, e, h1, h2⟩ := rv
 exact ⟨a, vs, e, Same.seqT ok.rl.same h1, by rw [← h2.len]; exact hl, hs c M σ ds _ _ _ _ ok rs (RpL.ds h2) q po⟩
theorem Ziv : SimP S tNoPart Zci := fun c M σ ds Q Qd ok rs q po => po c M none (Step.refl _ _) ok.rl q
theorem Zps (ha : SimE S ta da) : SimP S (tPart ta) (Zej da) := fun c M σ ds Q Qd ok rs q po =>
 ha c M σ ds _ _ ok rs q fun c1 M1 v1 d1 s1 r1 p1 ⟨i, e, q1⟩ => by
  subst e
  exact ⟨i, p1, po c1 M1 _ s1 r1 q1⟩
theorem Z0i {r : V → Option Int → Option Int → Hp → VK → Prop} {d : D → Option Int → Option Int → Mem → DQ → Prop} {tl th : TO} {dl dh : DO} (hr : SimL S r d) (ha : SimE S ta da) (hl : SimP S tl dl) (hh : SimP S th dh) : SimE S (tSl r ta tl th) (dSl d da dl dh) := fun c M σ ds Q Qd ok rs q po =>
 ha c M σ ds _ _ ok rs q fun c1 M1 v1 d1 s1 r1 p1 q1 => hl c1 M1 σ ds _ _ (ok.step s1 r1) (rs.step s1) q1 fun c2 M2 o2 s2 r2 q2 => hh c2 M2 σ ds _ _ ((ok.step s1 r1).step s2 r2) ((rs.step s1).step s2) q2 fun c3 M3 o3 s3 r3 q3 =>
  hr c3 M3 v1 d1 _ _ _ _ (((ok.step s1 r1).step s2 r2).step s3 r3) (Sc.Vd.step (Sc.Vd.step p1 s2) s3) q3 (po.step ((s1.trans s2).trans s3))
def Zgk (g : DG) (b : DS) (E : Zfi) : List D → DSt → Mem → Prop
 | [], ds, M => E.nx ds M
 | x :: xs, ds, M => g x ds M fun ds2 M2 => b { E with nx := Zgk g b E xs, ct := Zgk g b E xs, bk := E.nx } ds2 M2
def dFor (it : DI) (g : DG) (b : DS) : DS := fun E ds M => it ds M fun xs M1 => Zgk g b E xs ds M1
theorem Zl4 {ti : TI} {di : DI} {g : TG} {dg : DG} (hi : SimI S ti di) (hg : SimG S g dg) (hb : SimS S ts dss) : SimS S (tFor ti g ts) (dFor di dg dss) := fun c M σ ds E Ed ok rs q po =>
 hi c M σ ds _ _ ok rs q fun c1 M1 J xs s1 r1 wk q1 => by
  refine ⟨fun i m σ' H' => ∃ c2 M2 ds2, c2.H = H' ∧ m = xs.length - i ∧ i ≤ xs.length ∧ Step c1 M1 c2 M2 ∧ Rel S.K S.cs c2 M2 ∧ S.St c2 ds2 σ' ∧ Zgk dg dss Ed (xs.drop i) ds2 M2, ⟨xs.length, c1, M1, ds, rfl, rfl, Qr _, Step.refl _ _, r1, rs.step s1, q1⟩, ?_⟩
  rintro i m σ' H' ⟨c2, M2, ds2, rfl, rfl, hi, s2, r2, p2, q2⟩
  obtain ⟨w1, w2⟩ := wk i c2 M2 s2.same s2.pre r2
  by_cases hlt : i < xs.length
  ·obtain ⟨g1, g2⟩ := w2 xs[i] (by simp [hlt])
   rw [Qw hlt] at q2
   refine Or.inr ⟨g1, fun σ'' H'' => ∃ c3 M3 ds3, c3.H = H'' ∧ Step c1 M1 c3 M3 ∧ Rel S.K S.cs c3 M3 ∧ S.St c3 ds3 σ'' ∧ Zgk dg dss Ed (xs.drop (i + 1)) ds3 M3, fun σ'' H'' ⟨c3, M3, ds3, e, s3, r3, p3, q3⟩ => ⟨xs.length - (i + 1), by omega, c3, M3, ds3, e, rfl, hlt, s3, r3, p3, q3⟩, fun x H'' hy => ?_⟩
   obtain ⟨c3, rfl, s3, r3, p3⟩ := g2 x H'' hy
   have ok2 := (ok.step s1 r1).step s2 r2
   refine hg c3 M2 σ' ds2 _ _ _ _ (ok2.step s3 r3) (p2.step s3) p3 q2 fun c4 M4 σ4 ds4 s4 r4 p4 q4 => ?_
   have st : Step c1 M1 c4 M4 := s2.trans (s3.trans s4)
   have ps : PoS S c4 M4 (Zgk dg dss Ed (xs.drop (i + 1))) (fun σ'' H'' => ∃ c3 M3 ds3, c3.H = H'' ∧ Step c1 M1 c3 M3 ∧ Rel S.K S.cs c3 M3 ∧ S.St c3 ds3 σ'' ∧ Zgk dg dss Ed (xs.drop (i + 1)) ds3 M3) := fun c5 M5 σ5 ds5 s5 r5 p5 q5 => ⟨c5, M5, ds5, rfl, st.trans s5, r5, p5, q5⟩
   have po4 := po.step (s1.trans st)
   exact hb c4 M4 σ4 ds4 _ _ ((ok2.step s3 r3).step s4 r4) p4 q4 ⟨ps, po4.rt, po4.nx, ps⟩
  ·have e : xs.length = i := by omega
   rw [← e, Hl] at q2
   exact Or.inl ⟨w1 e, po.nx c2 M2 σ' ds2 (s1.trans s2) r2 p2 q2⟩
def dWhN (t : DT) (b : DS) (E : Zfi) : Nat → DSt → Mem → Prop
 | 0, _, _ => False
 | n + 1, ds, M => t ds M fun k M1 => if k = true then b { E with nx := dWhN t b E n, ct := dWhN t b E n, bk := E.nx } ds M1 else E.nx ds M1
def Yd5 (t : DT) (b : DS) : DS := fun E ds M => ∃ n, dWhN t b E n ds M
theorem Z0g (hc : SimT S tt dt) (hb : SimS S ts dss) : SimS S (tWhile tt ts) (Yd5 dt dss) := fun c M σ ds E Ed ok rs ⟨n, q⟩ po => by
 refine ⟨fun m σ' H' => ∃ c2 M2 ds2, c2.H = H' ∧ Step c M c2 M2 ∧ Rel S.K S.cs c2 M2 ∧ S.St c2 ds2 σ' ∧ dWhN dt dss Ed m ds2 M2, ⟨n, c, M, ds, rfl, Step.refl _ _, ok.rl, rs, q⟩, ?_⟩
 rintro m σ' H' ⟨c2, M2, ds2, rfl, s2, r2, p2, q2⟩
 cases m with
 | zero => exact (show False from q2).elim
 | succ m =>
  refine hc c2 M2 σ' ds2 _ _ (ok.step s2 r2) p2 q2 fun c3 M3 k s3 r3 q3 => ?_
  cases k with
  | true =>
   have st := s2.trans s3
   refine ⟨fun σ'' H'' => ∃ c4 M4 ds4, c4.H = H'' ∧ Step c M c4 M4 ∧ Rel S.K S.cs c4 M4 ∧ S.St c4 ds4 σ'' ∧ dWhN dt dss Ed m ds4 M4, fun σ'' H'' ⟨c4, M4, ds4, e, s4, r4, p4, q4⟩ => ⟨m, by omega, c4, M4, ds4, e, s4, r4, p4, q4⟩, ?_⟩
   have ps : PoS S c3 M3 (dWhN dt dss Ed m) (fun σ'' H'' => ∃ c4 M4 ds4, c4.H = H'' ∧ Step c M c4 M4 ∧ Rel S.K S.cs c4 M4 ∧ S.St c4 ds4 σ'' ∧ dWhN dt dss Ed m ds4 M4) := fun c5 M5 σ5 ds5 s5 r5 p5 q5 => ⟨c5, M5, ds5, rfl, st.trans s5, r5, p5, q5⟩
   have po4 := po.step st
   exact hb c3 M3 σ' ds2 _ _ (ok.step st r3) (p2.step s3) q3 ⟨ps, po4.rt, po4.nx, ps⟩
  | false => exact po.nx c3 M3 σ' ds2 (s2.trans s3) r3 (p2.step s3) q3
def jStr (a : DE) : DI := fun ds M R => a ds M fun x M1 => ∃ z, x = .v (.str z) ∧ R (z.map fun c => D.v (.str [c])) M1
def jLst (a : DE) : DI := fun ds M R => a ds M fun x M1 => ∃ xs, x = .v (.lst xs) ∧ R (xs.map D.v) M1
def jTup (a : DE) : DI := fun ds M R => a ds M fun x M1 => ∃ xs, x = .v (.tup xs) ∧ R (xs.map D.v) M1
def Zjn (a : DA) : DI := fun ds M R => a ds M fun xs M1 => ∃ j : Int, xs = [.v (.int j)] ∧ -(2 ^ 62) ≤ j ∧ j < 2 ^ 62 ∧ R ((List.range j.toNat).map fun (k : Nat) => D.v (.int k)) M1
def Ygm (a : DA) : DI := fun ds M R => a ds M fun xs M1 => ∃ i j : Int, xs = [.v (.int i), .v (.int j)] ∧ (-(2 ^ 62) ≤ i ∧ i < 2 ^ 62 ∧ -(2 ^ 62) ≤ j ∧ j < 2 ^ 62) ∧ R ((List.range (j - i).toNat).map fun (k : Nat) => D.v (.int (i + k))) M1
theorem Zlm {c : CS} {J : It} {n : Nat} {G : Hp → Prop} {Y : Nat → Hp → V → Hp → Prop} (w : Walk J n G Y) {xs : List D} (hn : n = xs.length) (hG : ∀ c' : CS, Same c.F c'.F → Same c'.F c'.H → G c'.H) (hy : ∀ i d x H H', xs[i]? = some d → Y i H x H' → H' = H ∧ S.Vd c d x) : Wk S c J xs := by
 intro i c' M' s p r
 subst hn
 have g := hG c' s r.same
 refine ⟨fun e => by subst e; exact w.stops _ g, fun d e => ?_⟩
 have hi := (Qa.mp e).1
 refine ⟨w.goes i _ hi g, fun x H' y => ?_⟩
 obtain ⟨e1, e2⟩ := hy i d x _ _ e (w.yields i _ x H' hi g y)
 exact ⟨c', e1.symm, Step.refl _ _, r, RpD.mono s p e2⟩
theorem Zpv (ha : SimE S ta da) : SimI S (iStr ta) (jStr da) := fun c M σ ds R Rd ok rs q po =>
 ha c M σ ds _ _ ok rs q fun c1 M1 v1 d1 s1 r1 p1 ⟨z, e, q1⟩ => by
  subst e
  cases (show v1 = sv z from p1)
  refine ⟨_, rfl, po c1 M1 _ _ s1 r1 (Zlm walk_str (by simp) (fun _ _ _ => trivial) fun i d x H H' hd hy => ?_) q1⟩
  obtain ⟨e, c, hc, rfl⟩ := hy
  refine ⟨e, ?_⟩
  rw [Qn] at hd
  have hzc : z[i]? = some c := by simpa using hc
  rw [hzc] at hd
  cases hd
  rfl
theorem Zpw (ha : SimE S ta da) : SimI S (iList S.K ta) (jLst da) := fun c M σ ds R Rd ok rs q po =>
 ha c M σ ds _ _ ok rs q fun c1 M1 v1 d1 s1 r1 p1 ⟨z, e, q1⟩ => by
  subst e
  obtain ⟨a, vs, rfl, h1, h2⟩ := p1
  refine ⟨a, rfl, ⟨vs, Zgg (r1.same _ _ h1)⟩, po c1 M1 _ _ s1 r1 (Zlm walk_list (xs := z.map D.v) (by rw [Qb, h2.len]) (fun c' s1 s2 => Zgg (s2 _ _ (s1 _ _ h1))) fun i d x H H' hd hy => ?_) q1⟩
  obtain ⟨e, hx⟩ := hy
  refine ⟨e, ?_⟩
  obtain ⟨v, e1, e2⟩ := (RpL.ds h2).get hd
  rw [hx] at e1
  cases e1
  exact e2
theorem Zlc (ha : SimE S ta da) : SimI S (iTup S.K ta) (jTup da) := fun c M σ ds R Rd ok rs q po =>
 ha c M σ ds _ _ ok rs q fun c1 M1 v1 d1 s1 r1 p1 ⟨z, e, q1⟩ => by
  subst e
  obtain ⟨a, vs, rfl, h1, h2⟩ := p1
  refine ⟨a, rfl, ⟨vs, Same.seqT r1.same h1⟩, po c1 M1 _ _ s1 r1 (Zlm walk_tup (xs := z.map D.v) (by rw [Qb, h2.len]) (fun c' s1 s2 => Same.seqT s2 (Same.seqT s1 h1)) fun i d x H H' hd hy => ?_) q1⟩
  obtain ⟨e, hx⟩ := hy
  refine ⟨e, ?_⟩
  obtain ⟨v, e1, e2⟩ := (RpL.ds h2).get hd
  rw [hx] at e1
  cases e1
  exact e2
theorem Zi0 {n i : Nat} {f : Nat → D} {d : D} (h : ((List.range n).map f)[i]? = some d) : d = f i := by
 rw [Qn] at h
 cases q : (List.range n)[i]? with
 | none => rw [q] at h; cases h
 | some k =>
  rw [q] at h
  cases h
  have := Qa.mp q
  obtain ⟨h1, h2⟩ := this
  rw [List.getElem_range] at h2
  rw [h2]
theorem Zl2 (ha : SimA S tr dr) : SimI S (iRng1 tr) (Zjn dr) := fun c M σ ds R Rd ok rs q po =>
 ha c M σ ds _ _ ok rs q fun c1 M1 v1 d1 s1 r1 p1 ⟨j, e, h1, h2, q1⟩ => by
  subst e
  obtain ⟨v, rfl, e⟩ : ∃ v, v1 = [v] ∧ v = V.int j := by
   cases p1 with
   | cons r t => cases t; exact ⟨_, rfl, r⟩
  subst e
  refine ⟨j, rfl, h1, h2, po c1 M1 _ _ s1 r1 (Zlm walk_range (by simp) (fun _ _ _ => trivial) fun i d x H H' hd hy => ?_) q1⟩
  obtain ⟨e, rfl⟩ := hy
  refine ⟨e, ?_⟩
  rw [Zi0 hd]
  show V.int (0 + i) = V.int i
  rw [Int.zero_add]
theorem Z0n (ha : SimA S tr dr) : SimI S (iRng2 tr) (Ygm dr) := fun c M σ ds R Rd ok rs q po =>
 ha c M σ ds _ _ ok rs q fun c1 M1 v1 d1 s1 r1 p1 ⟨i, j, e, h1, q1⟩ => by
  subst e
  obtain rfl : v1 = [V.int i, V.int j] := by
   cases p1 with
   | cons r t =>
    cases t with
    | cons r' t =>
     cases t
     rw [show _ = V.int i from r, show _ = V.int j from r']
  refine ⟨i, j, rfl, h1, po c1 M1 _ _ s1 r1 (Zlm walk_range (by simp) (fun _ _ _ => trivial) fun i d x H H' hd hy => ?_) q1⟩
  obtain ⟨e, rfl⟩ := hy
  refine ⟨e, ?_⟩
  rw [Zi0 hd]
  rfl
end
end Cl
namespace Cl
open PySem PySem.Spec PyProof.Rows L2 He ClX
mutual
def nkD : PyData → NestedKey
 | .none => .none
 | .bool b => .num (if b = true then 1 else 0)
 | .int i => .num i
 | .str x => .text x
 | .tuple ds => .tup (nkDs ds)
 | .list _ => .none
 | .dict _ => .none
def nkDs : List PyData → List NestedKey
 | [] => []
 | d :: ds => nkD d :: nkDs ds
end
mutual
def isKD : PyData → Bool
 | .none => true
 | .bool _ => true
 | .int _ => true
 | .str _ => true
 | .tuple ds => Z49 ds
 | .list _ => false
 | .dict _ => false
def Z49 : List PyData → Bool
 | [] => true
 | d :: ds => isKD d && Z49 ds
end
section
variable {X : Cx} {pins : List (Addr × Obj)} {σ : L2.St} {H : Hp} {s : Shared}
mutual
theorem Dp.nest (I : Inv X pins σ H s) : ∀ (d : PyData) (v : V) (u : Value), Dp X.K H v d → isKD d = true → RelV v u → NestedIs s.heap (nkD d) u
 | .none, _, _, h, _, r => by cases h; cases r; exact .none
 | .bool b, _, _, h, _, r => by cases h; cases r; exact .bool rfl
 | .int i, _, _, h, _, r => by cases h; obtain ⟨t, rfl⟩ := r; exact .int _ _
 | .str x, _, _, h, _, r => by cases h; obtain ⟨t, rfl⟩ := r; exact .text _ _
 | .list ds, _, _, _, k, _ => by cases k
 | .tuple ds, _, _, h, k, r => by
  cases h with
  | tup hs ha =>
   cases r
   obtain ⟨its, rv, ⟨o, ho, hc, n, hd⟩, _⟩ := I.tuple hs
   exact .tup ho hc hd (by simpa using Dp.Z1g I ds _ its ha k rv)
 | .dict _, _, _, h, _, _ => by cases h
theorem Dp.Z1g (I : Inv X pins σ H s) : ∀ (ds : List PyData) (vs : List V) (us : List Value), DpAll X.K H vs ds → Z49 ds = true → Vals vs us → NestedAll s.heap (nkDs ds) us
 | [], _, _, h, _, r => by cases h; cases r; exact .nil
 | d :: ds, _, _, h, k, r => by
  have k' : (isKD d && Z49 ds) = true := k
  rw [Hq] at k'
  cases h with
  | cons h1 h2 =>
   cases r with
   | cons r1 r2 => exact .cons (Dp.nest I d _ _ h1 k'.1 r1) (Dp.Z1g I ds _ _ h2 k'.2 r2)
end
end
def NKey (K : PySem.W.Frag) (H : Hp) (d : PyData) (p : Addr) : Prop := Dp K H (.ref p) d ∧ isKD d = true ∧ (nkD d).depth ≤ 8
structure Yeo (w : World) (K : PySem.W.Frag) (H : Hp) (a : Addr) (ks : List PyData) (ys : List (Int × Addr × V)) : Prop where
 at_ : H a = some (.ext (DnO a ys))
 sys : (a == sysModules) = false
 len : ys.length ≤ sizeLine
 nd : (ks.map nkD).Nodup
 rel : A2 (fun k (y : Int × Addr × V) => y.1 = (nkD k).hash w ∧ NKey K H k y.2.1) ks ys
section
variable {X : Cx} {pins : List (Addr × Obj)} {σ : L2.St} {H : Hp} {s : Shared} {a p : Addr} {d : PyData} {ks : List PyData} {ys : List (Int × Addr × V)} {A : Around} {E : Value → Shared → Prop}
theorem NKey.is (I : Inv X pins σ H s) (h : NKey X.K H d p) : (nestedKind X.prog X.w).is s.heap (nkD d) p := ⟨Dp.nest I d _ _ h.1 h.2.1 rfl, h.2.2⟩
abbrev XRel (k : PyData) (y : Int × Addr × V) (x : NestedKey × Addr × Value) : Prop := x.1 = nkD k ∧ x.2.1 = y.2.1 ∧ RelV y.2.2 x.2.2
theorem Yeo.dict (I : Inv X pins σ H s) (h : Yeo X.w X.K H a ks ys) : ∃ xs : List (NestedKey × Addr × Value), s.heap.DictOfH (nestedKind X.prog X.w) a xs ∧ xs.length = ys.length ∧ xs.map (·.1) = ks.map nkD ∧ ∀ (i : Nat) (k : PyData) (y : Int × Addr × V), ks[i]? = some k → ys[i]? = some y → ∃ x, xs[i]? = some x ∧ XRel k y x := by
 have ob := I.hok a _ h.at_
 obtain ⟨⟨o, ep, ens, h1, h2, h3, h4⟩, _, _⟩ := ob
 have key : ∀ (ks : List PyData) (ys : List (Int × Addr × V)) (es : List DictEntry), A2 (fun k (y : Int × Addr × V) => y.1 = (nkD k).hash X.w ∧ NKey X.K H k y.2.1) ks ys → A2 (fun (y : Int × Addr × V) (en : DictEntry) => en.hash = y.1 ∧ en.key = .ref y.2.1 ∧ RelV y.2.2 en.val) ys es →
   ∃ xs : List (NestedKey × Addr × Value), es = xs.map (entryOfKey (nestedKind X.prog X.w)) ∧ (∀ x ∈ xs, (nestedKind X.prog X.w).is s.heap x.1 x.2.1) ∧ xs.length = ys.length ∧ xs.map (·.1) = ks.map nkD ∧ ∀ (i : Nat) (k : PyData) (y : Int × Addr × V), ks[i]? = some k → ys[i]? = some y → ∃ x, xs[i]? = some x ∧ XRel k y x := by
  intro ks ys es r1 r2
  induction r1 generalizing es with
  | nil =>
   cases r2
   exact ⟨[], rfl, (fun _ h => nomatch h), rfl, rfl, fun i k y e => by simp at e⟩
  | @cons k y ks ys q t ih =>
   cases r2 with
   | @cons _ en _ es q2 t2 =>
    obtain ⟨xs, g1, g2, g3, g4, g5⟩ := ih es t2
    refine ⟨(nkD k, y.2.1, en.val) :: xs, ?_, fun x hx => ?_, by rw [Qe, Qe, g3], by rw [Q3, Q3, g4], fun i k' y' e1 e2 => ?_⟩
    ·rw [Q3, ← g1]
     congr 1
     obtain ⟨e1, e2, _⟩ := q2
     obtain ⟨eh, ek, ev⟩ := en
     show DictEntry.mk eh ek ev = _
     rw [show eh = y.1 from e1, show ek = .ref y.2.1 from e2, q.1]
     rfl
    ·rcases Qg.mp hx with rfl | hx
     ·exact q.2.is I
     ·exact g2 x hx
    ·cases i with
     | zero => cases e1; cases e2; exact ⟨_, rfl, rfl, rfl, q2.2.2⟩
     | succ i => exact g5 i k' y' (by simpa using e1) (by simpa using e2)
 obtain ⟨xs, g1, g2, g3, g4, g5⟩ := key ks ys ens.toList h.rel h4
 exact ⟨xs, ⟨o, ens, ep, h1, h2, h3, g1, g2, by rw [g4]; exact h.nd⟩, g3, g4, g5⟩
end
open PySem.W Builtin Builtin.Str Builtin.Float
end Cl
namespace Cl
open PySem PySem.Spec PyProof.Rows L2 He ClX
def lsOf (M : Mem) : D → Option (List D)
 | .v (.lst xs) => some (xs.map D.v)
 | .cell i => (match M[i]? with
  | some (some (.lst ds)) => some ds
  | _ => none)
 | _ => none
def sqOf (M : Mem) : D → Option (List D)
 | .v (.lst xs) => some (xs.map D.v)
 | .v (.tup xs) => some (xs.map D.v)
 | .cell i => (match M[i]? with
  | some (some (.lst ds)) => some ds
  | _ => none)
 | _ => none
section
variable {S : Sc}
theorem Zvo {c : CS} {M : Mem} (ok : S.Ok c M) {d : D} {v : V} {ds : List D} (r : S.Vd c d v) (h : lsOf M d = some ds) : ∃ a vs, v = .ref a ∧ c.H a = some (.lst vs) ∧ S.Ld c ds vs := by
 cases d with
 | v x =>
  cases x with
  | lst xs =>
   cases h
   obtain ⟨a, vs, e, h1, h2⟩ := r
   exact ⟨a, vs, e, ok.rl.same _ _ h1, RpL.ds h2⟩
  | _ => cases h
 | cell i =>
  unfold lsOf at h
  dsimp only at h
  split at h
  ·rename_i xs m
   cases h
   obtain ⟨a, e, rfl⟩ := r
   obtain ⟨h1, o, h2, vs, rfl, h3⟩ := ok.rl.live i a _ e m
   exact ⟨a, vs, rfl, h2, h3⟩
  ·cases h
 | exn _ => cases h
theorem Zyf {c : CS} {M : Mem} (ok : S.Ok c M) {d : D} {v : V} {ds : List D} (r : S.Vd c d v) (h : sqOf M d = some ds) : ∃ a vs, v = .ref a ∧ (SqL S.K c.H a vs ∨ SqT S.K c.H a vs) ∧ S.Ld c ds vs := by
 cases d with
 | v x =>
  cases x with
  | lst xs =>
   cases h
   obtain ⟨a, vs, e, h1, h2⟩ := r
   exact ⟨a, vs, e, .inl (Zgg (ok.rl.same _ _ h1)), RpL.ds h2⟩
  | tup xs =>
   cases h
   obtain ⟨a, vs, e, h1, h2⟩ := r
   exact ⟨a, vs, e, .inr (Same.seqT ok.rl.same h1), RpL.ds h2⟩
  | _ => cases h
 | cell i =>
  unfold sqOf at h
  dsimp only at h
  split at h
  ·rename_i xs m
   cases h
   obtain ⟨a, e, rfl⟩ := r
   obtain ⟨h1, o, h2, vs, rfl, h3⟩ := ok.rl.live i a _ e m
   exact ⟨a, vs, rfl, .inl (Zgg h2), h3⟩
  ·cases h
 | exn _ => cases h
theorem Z6t {c : CS} {M : Mem} {Qd : DQ} {Q : VK} (ok : S.Ok c M) (po : PoE S c M Qd Q) {p : Addr} (hp : c.H p = none) {o : HO} {x : PV} (r : Rp S.K S.cs (upd c.F p o) x (.ref p)) (q : Qd (.v x) M) : Q (.ref p) (upd c.H p o) := by
 obtain ⟨r1, s1⟩ := ok.rl.lay hp o
 exact po ⟨upd c.F p o, c.ρ, upd c.H p o⟩ M _ (.v x) s1 r1 r q
theorem Zfx {c : CS} {M : Mem} {Qd : DQ} {Q : VK} (ok : S.Ok c M) (po : PoE S c M Qd Q) {p : Addr} (hp : c.H p = none) {vs : List V} {xs : List PV} (r : RpL S.K S.cs c.F xs vs) (q : Qd (.v (.lst xs)) M) : Q (.ref p) (upd c.H p (.lst vs)) :=
 Z6t (x := .lst xs) ok po hp ⟨p, vs, rfl, upd_same, RpL.same (Za8 (ok.rl.fresh hp).1) xs vs r⟩ q
theorem Z6s {c : CS} {M : Mem} {Qd : DQ} {Q : VK} (ok : S.Ok c M) (po : PoE S c M Qd Q) {p : Addr} (hp : c.H p = none) {vs : List V} {xs : List PV} (r : RpL S.K S.cs c.F xs vs) (q : Qd (.v (.tup xs)) M) : Q (.ref p) (upd c.H p (.tup vs)) :=
 Z6t (x := .tup xs) ok po hp ⟨p, vs, rfl, .inl (.inl upd_same), RpL.same (Za8 (ok.rl.fresh hp).1) xs vs r⟩ q
theorem Zqv {c : CS} {M : Mem} {Qd : DQ} {Q : VK} (ok : S.Ok c M) (po : PoE S c M Qd Q) {p : Addr} (hp : c.H p = none) {vs : List V} {ds : List D} (r : S.Ld c ds vs) (q : Qd (.cell M.length) (M ++ [some (.lst ds)])) : Q (.ref p) (upd c.H p (.lst vs)) := by
 obtain ⟨r1, s1⟩ := ok.rl.newc hp (x := .lst ds) (o := .lst vs) ⟨vs, rfl, r⟩
 exact po ⟨c.F, c.ρ ++ [p], upd c.H p (.lst vs)⟩ _ _ (.cell M.length) s1 r1 ⟨p, by show (c.ρ ++ [p])[M.length]? = some p; rw [← ok.rl.len]; simp, rfl⟩ q
theorem po_v {c : CS} {M : Mem} {Qd : DQ} {Q : VK} (ok : S.Ok c M) (po : PoE S c M Qd Q) {v : V} {d : D} (r : S.Vd c d v) (q : Qd d M) : Q v c.H := po c M v d (Step.refl _ _) ok.rl r q
theorem Zck {c : CS} {ds : List D} {vs : List V} {xs : List PV} (r : S.Ld c ds vs) (h : Za2 ds = some xs) : RpL S.K S.cs c.F xs vs := by
 rw [Zfe h] at r
 exact r.pure
def dTup (a : DA) : DE := fun ds M Q => a ds M fun ys M1 => ∃ xs, Za2 ys = some xs ∧ ys.length ≤ sizeLine ∧ Q (.v (.tup xs)) M1
def dLst (a : DA) : DE := fun ds M Q => a ds M fun ys M1 => ∃ xs, Za2 ys = some xs ∧ ys.length ≤ sizeLine ∧ Q (.v (.lst xs)) M1
def Zrr (a : DA) : DE := fun ds M Q => a ds M fun ys M1 => ys.length ≤ sizeLine ∧ Q (.cell M1.length) (M1 ++ [some (.lst ys)])
theorem Zpr {tr : TA} {dr : DA} (ha : SimA S tr dr) : SimE S (tTup tr) (dTup dr) := fun c M σ ds Q Qd ok rs q po =>
 ha c M σ ds _ _ ok rs q fun c1 M1 v1 d1 s1 r1 p1 ⟨xs, e, hl, q1⟩ => ⟨by rw [← p1.len]; exact hl, fun p hp => Z6s (ok.step s1 r1) (po.step s1) hp (Zck p1 e) q1⟩
theorem Zu9 {tr : TA} {dr : DA} (ha : SimA S tr dr) : SimE S (tLst tr) (dLst dr) := fun c M σ ds Q Qd ok rs q po =>
 ha c M σ ds _ _ ok rs q fun c1 M1 v1 d1 s1 r1 p1 ⟨xs, e, hl, q1⟩ => ⟨by rw [← p1.len]; exact hl, fun p hp => Zfx (ok.step s1 r1) (po.step s1) hp (Zck p1 e) q1⟩
theorem Zpu {tr : TA} {dr : DA} (ha : SimA S tr dr) : SimE S (tLst tr) (Zrr dr) := fun c M σ ds Q Qd ok rs q po =>
 ha c M σ ds _ _ ok rs q fun c1 M1 v1 d1 s1 r1 p1 ⟨hl, q1⟩ => ⟨by rw [← p1.len]; exact hl, fun p hp => Zqv (ok.step s1 r1) (po.step s1) hp p1 q1⟩
abbrev vI (i : Int) : D := .v (.int i)
abbrev vB (b : Bool) : D := .v (.bl b)
abbrev vS (z : List Nat) : D := .v (.str z)
abbrev vL (xs : List PV) : D := .v (.lst xs)
abbrev vT (xs : List PV) : D := .v (.tup xs)
def uAdd : DR2 := fun x y M Q => (∃ i j, x = vI i ∧ y = vI j ∧ Q (vI (i + j)) M) ∨ (∃ a b, x = vS a ∧ y = vS b ∧ a.length + b.length ≤ sizeLine ∧ Q (vS (a ++ b)) M) ∨
 (∃ a b, x = vL a ∧ y = vL b ∧ a.length + b.length ≤ sizeLine ∧ Q (vL (a ++ b)) M)
theorem Zow : SimO S zAdd uAdd := fun c M x y dx dy Q Qd ok rx ry q po => by
 rcases q with ⟨i, j, rfl, rfl, q⟩ | ⟨a, b, rfl, rfl, h, q⟩ | ⟨a, b, rfl, rfl, h, q⟩
 ·cases (show x = .int i from rx); cases (show y = .int j from ry)
  exact po_v ok po (d := vI (i + j)) rfl q
 ·cases (show x = sv a from rx); cases (show y = sv b from ry)
  exact ⟨h, po_v ok po (d := vS (a ++ b)) rfl q⟩
 ·obtain ⟨p, vs, e1, h1, r1⟩ := rx
  obtain ⟨p', vs', e2, h2, r2⟩ := ry
  cases e1; cases e2
  exact ⟨vs, vs', ok.rl.same _ _ h1, ok.rl.same _ _ h2, by rw [← r1.len, ← r2.len]; exact h, fun p hp => Zfx ok po hp (r1.a2.append r2.a2).rpL q⟩
def uSub : DR2 := fun x y M Q => ∃ i j, x = vI i ∧ y = vI j ∧ Q (vI (i - j)) M
theorem Zz6 : SimO S zSub uSub := fun c M x y dx dy Q Qd ok rx ry q po => by
 obtain ⟨i, j, rfl, rfl, q⟩ := q
 cases (show x = .int i from rx); cases (show y = .int j from ry)
 exact po_v ok po (d := vI (i - j)) rfl q
theorem A2.rep {α β : Type} {R : α → β → Prop} {xs : List α} {vs : List β} (r : A2 R xs vs) : ∀ n : Nat, A2 R (List.replicate n xs).flatten (List.replicate n vs).flatten
 | 0 => .nil
 | n + 1 => by
  rw [Gr, Gr, Hs, Hs]
  exact r.append (A2.rep r n)
def uMul : DR2 := fun x y M Q => (∃ i j, x = vI i ∧ y = vI j ∧ CMul i j ∧ Q (vI (i * j)) M) ∨ (∃ a k, x = vS a ∧ y = vI k ∧ 0 ≤ k ∧ k ≤ 100000 ∧ a.length ≤ 100 ∧ Q (vS (rep a k.toNat)) M) ∨
 (∃ a k, x = vL a ∧ y = vI k ∧ -(2 ^ 63) ≤ k ∧ k < 2 ^ 63 ∧ a.length * k.toNat ≤ sizeLine ∧ Q (vL (List.replicate k.toNat a).flatten) M)
theorem Zz8 : SimO S zMul uMul := fun c M x y dx dy Q Qd ok rx ry q po => by
 rcases q with ⟨i, j, rfl, rfl, h, q⟩ | ⟨a, k, rfl, rfl, q1, q2, q3, q⟩ | ⟨a, k, rfl, rfl, q1, q2, q3, q⟩
 ·cases (show x = .int i from rx); cases (show y = .int j from ry)
  exact ⟨h, po_v ok po (d := vI (i * j)) rfl q⟩
 ·cases (show x = sv a from rx); cases (show y = .int k from ry)
  exact ⟨q1, q2, q3, po_v ok po (d := vS (rep a k.toNat)) rfl q⟩
 ·obtain ⟨p, vs, e1, h1, r1⟩ := rx
  cases e1; cases (show y = .int k from ry)
  exact ⟨vs, ok.rl.same _ _ h1, q1, q2, by rw [← r1.len]; exact q3, fun p hp => Zfx ok po hp (r1.a2.rep _).rpL q⟩
def uDiv : DR2 := fun x y M Q => ∃ i j, x = vI i ∧ y = vI j ∧ CDivW i j ∧ Q (vI (i / j)) M
theorem Z0c : SimO S zDiv uDiv := fun c M x y dx dy Q Qd ok rx ry q po => by
 obtain ⟨i, j, rfl, rfl, h, q⟩ := q
 cases (show x = .int i from rx); cases (show y = .int j from ry)
 exact ⟨h, po_v ok po (d := vI (i / j)) rfl q⟩
def uMod : DR2 := fun x y M Q => ∃ i j, x = vI i ∧ y = vI j ∧ 0 < j ∧ Q (vI (i % j)) M
theorem Zz9 : SimO S zMod uMod := fun c M x y dx dy Q Qd ok rx ry q po => by
 obtain ⟨i, j, rfl, rfl, h, q⟩ := q
 cases (show x = .int i from rx); cases (show y = .int j from ry)
 exact ⟨h, po_v ok po (d := vI (i % j)) rfl q⟩
def uPow : DR2 := fun x y M Q => ∃ i j, x = vI i ∧ y = vI j ∧ CPow i j ∧ Q (vI (i ^ j.toNat)) M
theorem Z6a : SimO S zPow uPow := fun c M x y dx dy Q Qd ok rx ry q po => by
 obtain ⟨i, j, rfl, rfl, h, q⟩ := q
 cases (show x = .int i from rx); cases (show y = .int j from ry)
 exact ⟨h, po_v ok po (d := vI (i ^ j.toNat)) rfl q⟩
def uNeg : D → Mem → DQ → Prop := fun x M Q => ∃ i, x = vI i ∧ Q (vI (-i)) M
theorem Zzv : SimU S zNeg uNeg := fun c M x dx Q Qd ok rx q po => by
 obtain ⟨i, rfl, q⟩ := q
 cases (show x = .int i from rx)
 exact po_v ok po (d := vI (-i)) rfl q
def uLt : DR2 := fun x y M Q => ∃ i j, x = vI i ∧ y = vI j ∧ Q (vB (decide (i < j))) M
theorem Z8c : SimO S zLt uLt := fun c M x y dx dy Q Qd ok rx ry q po => by
 obtain ⟨i, j, rfl, rfl, q⟩ := q
 cases (show x = .int i from rx); cases (show y = .int j from ry)
 exact po_v ok po (d := vB (decide (i < j))) rfl q
def uLe : DR2 := fun x y M Q => ∃ i j, x = vI i ∧ y = vI j ∧ Q (vB (decide (i ≤ j))) M
theorem Z8d : SimO S zLe uLe := fun c M x y dx dy Q Qd ok rx ry q po => by
 obtain ⟨i, j, rfl, rfl, q⟩ := q
 cases (show x = .int i from rx); cases (show y = .int j from ry)
 exact po_v ok po (d := vB (decide (i ≤ j))) rfl q
def uGt : DR2 := fun x y M Q => ∃ i j, x = vI i ∧ y = vI j ∧ Q (vB (decide (j < i))) M
theorem Z34 : SimO S zGt uGt := fun c M x y dx dy Q Qd ok rx ry q po => by
 obtain ⟨i, j, rfl, rfl, q⟩ := q
 cases (show x = .int i from rx); cases (show y = .int j from ry)
 exact po_v ok po (d := vB (decide (j < i))) rfl q
def uGe : DR2 := fun x y M Q => ∃ i j, x = vI i ∧ y = vI j ∧ Q (vB (decide (j ≤ i))) M
theorem Z8h : SimO S zGe uGe := fun c M x y dx dy Q Qd ok rx ry q po => by
 obtain ⟨i, j, rfl, rfl, q⟩ := q
 cases (show x = .int i from rx); cases (show y = .int j from ry)
 exact po_v ok po (d := vB (decide (j ≤ i))) rfl q
def eqP : PV → PV → Option Bool
 | .non, .non => some true
 | .non, .int _ | .int _, .non | .non, .bl _ | .bl _, .non | .non, .str _ | .str _, .non | .int _, .str _ | .str _, .int _ | .bl _, .str _ | .str _, .bl _ => some false
 | .int i, .int j => some (decide (i = j))
 | .bl i, .bl j => some (decide (i = j))
 | .str a, .str b => some (decide (a = b))
 | _, _ => none
mutual
def pdat : PV → PyData
 | .bl b => .bool b
 | .int i => .int i
 | .str z => .str ⟨⟨z⟩⟩
 | .lst xs => .list (Zd6 xs)
 | .tup xs => .tuple (Zd6 xs)
 | _ => .none
def Zd6 : List PV → List PyData
 | [] => []
 | x :: xs => pdat x :: Zd6 xs
end
mutual
def Zg9 : PV → Bool
 | .non | .bl _ | .int _ | .str _ => true
 | .lst xs | .tup xs => Zkb xs
 | _ => false
def Zkb : List PV → Bool
 | [] => true
 | x :: xs => Zg9 x && Zkb xs
end
mutual
theorem Rp.dp {K : PySem.W.Frag} {cs : List Cn} {F H : Hp} (s : Same F H) : ∀ (x : PV) (v : V), Zg9 x = true → Rp K cs F x v → Dp K H v (pdat x)
 | .non, _, _, h => by cases (show _ = V.non from h); exact .non
 | .bl b, _, _, h => by cases (show _ = V.bl b from h); exact .bl b
 | .int i, _, _, h => by cases (show _ = V.int i from h); exact .int i
 | .str z, _, _, h => by cases (show _ = sv z from h); exact .str _
 | .lst xs, _, hd, ⟨a, vs, e, h1, h2⟩ => by cases e; exact .lst (Zgg (s _ _ h1)) (RpL.dp s xs vs hd h2)
 | .tup xs, _, hd, ⟨a, vs, e, h1, h2⟩ => by cases e; exact .tup (Same.seqT s h1) (RpL.dp s xs vs hd h2)
theorem RpL.dp {K : PySem.W.Frag} {cs : List Cn} {F H : Hp} (s : Same F H) : ∀ (xs : List PV) (vs : List V), Zkb xs = true → RpL K cs F xs vs → DpAll K H vs (Zd6 xs)
 | [], _, _, h => by cases (show _ = [] from h); exact .nil
 | x :: xs, _, hd, ⟨v, ws, e, h1, h2⟩ => by
  cases e
  have hd' : (Zg9 x && Zkb xs) = true := hd
  rw [Hq] at hd'
  exact .cons (Rp.dp s x v hd'.1 h1) (RpL.dp s xs ws hd'.2 h2)
end
theorem Z5h {x y : PV} {b : Bool} (h : eqP x y = some b) : (x = .non ∨ (∃ i, x = .bl i) ∨ (∃ i, x = .int i) ∨ ∃ z, x = .str z) ∧ (y = .non ∨ (∃ i, y = .bl i) ∨ (∃ i, y = .int i) ∨ ∃ z, y = .str z) := by
 unfold eqP at h
 split at h <;> first | (cases h; done) | exact ⟨by simp, by simp⟩
theorem Z2p {K : PySem.W.Frag} {cs : List Cn} {F : Hp} {x y : PV} {v u : V} {b : Bool} (h : eqP x y = some b) (rx : Rp K cs F x v) (ry : Rp K cs F y u) : eqB v u = some b := by
 obtain ⟨h1, h2⟩ := Z5h h
 rcases h1 with rfl | ⟨i, rfl⟩ | ⟨i, rfl⟩ | ⟨i, rfl⟩ <;> rcases h2 with rfl | ⟨j, rfl⟩ | ⟨j, rfl⟩ | ⟨j, rfl⟩ <;> (cases (show v = _ from rx); cases (show u = _ from ry); exact h)
theorem Z01 {K : PySem.W.Frag} {cs : List Cn} {F : Hp} {x : PV} {v : V} (hd : Zg9 x = true) (r : Rp K cs F x v) : (x = .non ∧ v = .non) ∨ (∃ i, x = .bl i ∧ v = .bl i) ∨ (∃ i, x = .int i ∧ v = .int i) ∨ (∃ z, x = .str z ∧ v = sv z) ∨ ((∃ a, v = .ref a) ∧ ∀ y, eqP x y = none ∧ eqP y x = none) := by
 cases x with
 | non => exact Or.inl ⟨rfl, r⟩
 | bl i => exact Or.inr (Or.inl ⟨i, rfl, r⟩)
 | int i => exact Or.inr (Or.inr (Or.inl ⟨i, rfl, r⟩))
 | str i => exact Or.inr (Or.inr (Or.inr (Or.inl ⟨i, rfl, r⟩)))
 | lst xs =>
  obtain ⟨a, vs, e, _⟩ := r
  exact Or.inr (Or.inr (Or.inr (Or.inr ⟨⟨a, e⟩, fun y => by cases y <;> exact ⟨rfl, rfl⟩⟩)))
 | tup xs =>
  obtain ⟨a, vs, e, _⟩ := r
  exact Or.inr (Or.inr (Or.inr (Or.inr ⟨⟨a, e⟩, fun y => by cases y <;> exact ⟨rfl, rfl⟩⟩)))
 | _ => cases hd
theorem Zx0 {K : PySem.W.Frag} {cs : List Cn} {F : Hp} {x y : PV} {v u : V} (h : eqP x y = none) (dx : Zg9 x = true) (dy : Zg9 y = true) (rx : Rp K cs F x v) (ry : Rp K cs F y u) : eqB v u = none := by
 rcases Z01 dx rx with ⟨rfl, rfl⟩ | ⟨i, rfl, rfl⟩ | ⟨i, rfl, rfl⟩ | ⟨i, rfl, rfl⟩ | ⟨⟨a, rfl⟩, _⟩ <;> rcases Z01 dy ry with ⟨rfl, rfl⟩ | ⟨j, rfl, rfl⟩ | ⟨j, rfl, rfl⟩ | ⟨j, rfl, rfl⟩ | ⟨⟨b, rfl⟩, _⟩ <;> first | rfl | exact h
def uEq : DR2 := fun x y M Q => ∃ a b, x = .v a ∧ y = .v b ∧ ((∃ k, eqP a b = some k ∧ Q (vB k) M) ∨ (eqP a b = none ∧ Zg9 a = true ∧ Zg9 b = true ∧ SeqAt.shaped (pdat a) = true ∧ SeqAt.shaped (pdat b) = true ∧ Q (vB (PyData.eqv (pdat a) (pdat b))) M))
def uNe : DR2 := fun x y M Q => ∃ a b, x = .v a ∧ y = .v b ∧ ((∃ k, eqP a b = some k ∧ Q (vB (!k)) M) ∨ (eqP a b = none ∧ Zg9 a = true ∧ Zg9 b = true ∧ SeqAt.shaped (pdat a) = true ∧ SeqAt.shaped (pdat b) = true ∧ Q (vB (!PyData.eqv (pdat a) (pdat b))) M))
theorem Z35 : SimO S (zEq S.K) uEq := fun c M x y dx dy Q Qd ok rx ry q po => by
 obtain ⟨a, b, rfl, rfl, ⟨k, e, q⟩ | ⟨e, h1, h2, h3, h4, q⟩⟩ := q
 ·unfold zEq
  rw [Z2p e rx ry]
  exact po_v ok po (d := vB (k)) rfl q
 ·unfold zEq
  rw [Zx0 e h1 h2 rx ry]
  exact ⟨_, _, Rp.dp ok.rl.same a x h1 rx, Rp.dp ok.rl.same b y h2 ry, h3, h4, po_v ok po (d := vB _) rfl q⟩
theorem Z8b : SimO S (zNe S.K) uNe := fun c M x y dx dy Q Qd ok rx ry q po => by
 obtain ⟨a, b, rfl, rfl, ⟨k, e, q⟩ | ⟨e, h1, h2, h3, h4, q⟩⟩ := q
 ·unfold zNe
  rw [Z2p e rx ry]
  exact po_v ok po (d := vB (!k)) rfl q
 ·unfold zNe
  rw [Zx0 e h1 h2 rx ry]
  exact ⟨_, _, Rp.dp ok.rl.same a x h1 rx, Rp.dp ok.rl.same b y h2 ry, h3, h4, po_v ok po (d := vB _) rfl q⟩
def isNon : D → Bool
 | .v .non => true
 | _ => false
theorem Z1f {c : CS} {d : D} {v : V} (r : S.Vd c d v) : decide (v = V.non) = isNon d := by
 cases d with
 | cell i => obtain ⟨a, _, rfl⟩ := r; rfl
 | exn a => cases (show v = .ref a from r); rfl
 | v x =>
  cases x with
  | non => cases (show v = _ from r); rfl
  | bl _ => cases (show v = _ from r); rfl
  | int _ => cases (show v = _ from r); rfl
  | str _ => cases (show v = _ from r); rfl
  | ty _ => cases (show v = _ from r); rfl
  | cls _ => cases (show v = _ from r); rfl
  | lst _ => obtain ⟨_, _, rfl, _⟩ := r; rfl
  | tup _ => obtain ⟨_, _, rfl, _⟩ := r; rfl
  | obj _ _ => obtain ⟨_, _, _, rfl, _⟩ := r; rfl
  | dct _ _ => obtain ⟨_, _, rfl, _⟩ := r; rfl
  | scr _ => obtain ⟨_, rfl, _⟩ := r; rfl
def uIs : DR2 := fun x y M Q => (y = .v .non ∧ Q (vB (isNon x)) M) ∨ ∃ a b, x = vB a ∧ y = vB b ∧ Q (vB (decide (a = b))) M
def Zor : DR2 := fun x y M Q => (y = .v .non ∧ Q (vB (!isNon x)) M) ∨ ∃ a b, x = vB a ∧ y = vB b ∧ Q (vB (!decide (a = b))) M
theorem Z8f : SimO S zIs uIs := fun c M x y dx dy Q Qd ok rx ry q po => by
 rcases q with ⟨rfl, q⟩ | ⟨a, b, rfl, rfl, q⟩
 ·cases (show y = .non from ry)
  have e : zIs x .non c.H Q = Q (.bl (decide (x = .non))) c.H := by cases x <;> rfl
  rw [e, Z1f rx]
  exact po_v ok po (d := vB _) rfl q
 ·cases (show x = .bl a from rx); cases (show y = .bl b from ry)
  exact po_v ok po (d := vB _) rfl q
theorem Zpq : SimO S Zop Zor := fun c M x y dx dy Q Qd ok rx ry q po => by
 rcases q with ⟨rfl, q⟩ | ⟨a, b, rfl, rfl, q⟩
 ·cases (show y = .non from ry)
  have e : Zop x .non c.H Q = Q (.bl (!decide (x = .non))) c.H := by cases x <;> rfl
  rw [e, Z1f rx]
  exact po_v ok po (d := vB _) rfl q
 ·cases (show x = .bl a from rx); cases (show y = .bl b from ry)
  exact po_v ok po (d := vB _) rfl q
def PV.flat : PV → Bool
 | .non | .bl _ | .int _ | .str _ => true
 | _ => false
def PV.eqF : PV → PV → Bool
 | .non, .non => true
 | .bl a, .bl b => a == b
 | .bl a, .int b => (if a then 1 else 0) == b
 | .int a, .bl b => a == (if b then 1 else 0)
 | .int a, .int b => decide (a = b)
 | .str a, .str b => decide (a = b)
 | _, _ => false
theorem Zm6 {x : PV} (h : x.flat = true) : x = .non ∨ (∃ i, x = .bl i) ∨ (∃ i, x = .int i) ∨ ∃ z, x = .str z := by
 cases x <;> first | (cases h; done) | simp
theorem Z7l {K : PySem.W.Frag} {cs : List Cn} {F : Hp} {x : PV} {v : V} (h : x.flat = true) (r : Rp K cs F x v) : flatV v = true := by
 rcases Zm6 h with rfl | ⟨i, rfl⟩ | ⟨i, rfl⟩ | ⟨i, rfl⟩ <;> (cases (show v = _ from r); rfl)
theorem Ygu {K : PySem.W.Frag} {cs : List Cn} {F : Hp} {x y : PV} {v u : V} (h : x.flat = true) (h' : y.flat = true) (r : Rp K cs F x v) (r' : Rp K cs F y u) : eqV v u = x.eqF y := by
 rcases Zm6 h with rfl | ⟨i, rfl⟩ | ⟨i, rfl⟩ | ⟨i, rfl⟩ <;> rcases Zm6 h' with rfl | ⟨j, rfl⟩ | ⟨j, rfl⟩ | ⟨j, rfl⟩ <;> (cases (show v = _ from r); cases (show u = _ from r'); first
  | rfl
  | (show (_ == _) = decide _; rw [Q7]; simp))
theorem Z2l {K : PySem.W.Frag} {cs : List Cn} {F : Hp} {xs : List PV} {vs : List V} (r : A2 (Rp K cs F) xs vs) : xs.all PV.flat = true → vs.all flatV = true := by
 induction r with
 | nil => exact fun _ => rfl
 | cons r t ih =>
  intro h
  rw [Gq, Hq] at h ⊢
  exact ⟨Z7l h.1 r, ih h.2⟩
theorem in_v {K : PySem.W.Frag} {cs : List Cn} {F : Hp} {x : PV} {v : V} (hx : x.flat = true) (rx : Rp K cs F x v) {xs : List PV} {vs : List V} (r : A2 (Rp K cs F) xs vs) : xs.all PV.flat = true → inV v vs = xs.any fun y => y.eqF x := by
 induction r with
 | nil => exact fun _ => rfl
 | cons r t ih =>
  intro h
  rw [Gq, Hq] at h
  show (eqV _ v || inV v _) = _
  rw [ih h.2, Ygu h.1 hx r rx, Lu]
def uInB (b : Bool) : DR2 := fun x y M Q => (∃ c z, x = vS [c] ∧ y = vS z ∧ Q (vB (b != decide (c ∈ z))) M) ∨ ∃ x' ys xs, x = .v x' ∧ sqOf M y = some ys ∧ Za2 ys = some xs ∧ x'.flat = true ∧ xs.all PV.flat = true ∧ Q (vB (b != xs.any fun y => y.eqF x')) M
abbrev uIn : DR2 := uInB false
abbrev Zhg : DR2 := uInB true
theorem Z7k {c : CS} {M : Mem} (ok : S.Ok c M) {x : PV} {v u : V} {d : D} {ys : List D} {xs : List PV} (rx : S.Vd c (.v x) v) (ry : S.Vd c d u) (h1 : sqOf M d = some ys) (h2 : Za2 ys = some xs) (h3 : x.flat = true) (h4 : xs.all PV.flat = true) : ∃ a vs, u = .ref a ∧ (SqL S.K c.H a vs ∨ SqT S.K c.H a vs) ∧ flatV v = true ∧ vs.all flatV = true ∧ inV v vs = xs.any fun y => y.eqF x := by
 obtain ⟨a, vs, e, hs, r⟩ := Zyf ok ry h1
 have r' := (Zck r h2).a2
 exact ⟨a, vs, e, hs, Z7l h3 rx, Z2l r' h4, in_v h3 rx r' h4⟩
theorem Z8g : SimO S (zIn S.K) uIn := fun c M x y dx dy Q Qd ok rx ry q po => by
 rcases q with ⟨c', z, rfl, rfl, q⟩ | ⟨x', ys, xs, rfl, h1, h2, h3, h4, q⟩
 ·cases (show x = sv [c'] from rx); cases (show y = sv z from ry)
  rw [G5] at q
  exact po_v ok po (d := vB _) rfl q
 ·rw [G5] at q
  obtain ⟨a, vs, rfl, g1, g2, g3, g4⟩ := Z7k ok rx ry h1 h2 h3 h4
  exact ⟨vs, g1, g2, g3, by rw [g4]; exact po_v ok po (d := vB _) rfl q⟩
theorem Zpp : SimO S (Zr7 S.K) Zhg := fun c M x y dx dy Q Qd ok rx ry q po => by
 rcases q with ⟨c', z, rfl, rfl, q⟩ | ⟨x', ys, xs, rfl, h1, h2, h3, h4, q⟩
 ·cases (show x = sv [c'] from rx); cases (show y = sv z from ry)
  rw [G9] at q
  exact po_v ok po (d := vB _) rfl q
 ·rw [G9] at q
  obtain ⟨a, vs, rfl, g1, g2, g3, g4⟩ := Z7k ok rx ry h1 h2 h3 h4
  exact ⟨vs, g1, g2, g3, by rw [g4]; exact po_v ok po (d := vB _) rfl q⟩
theorem Z3e {α β : Type} {R : α → β → Prop} {xs : List α} {vs : List β} (r : A2 R xs vs) {i : Int} {x : α} (h : atI xs i = some x) : ∃ v, atI vs i = some v ∧ R x v := by
 unfold atI at h ⊢
 rw [← r.len]
 cases e : ixN xs.length i with
 | none => rw [e] at h; cases h
 | some j =>
  rw [e] at h
  exact r.get h
def uIx : DR2 := fun x y M Q => ∃ i, y = vI i ∧ ((∃ z c, x = vS z ∧ z.length ≤ sizeLine ∧ atI z i = some c ∧ Q (vS [c]) M) ∨ (∃ xs u, (x = vL xs ∨ x = vT xs) ∧ atI xs i = some u ∧ Q (.v u) M) ∨
 ∃ k ds u, x = .cell k ∧ M[k]? = some (some (.lst ds)) ∧ atI ds i = some u ∧ Q u M)
theorem Z8e : SimO S (zIx S.K) uIx := fun c M x y dx dy Q Qd ok rx ry q po => by
 obtain ⟨i, rfl, ⟨z, c', rfl, h1, h2, q⟩ | ⟨xs, z, rfl | rfl, hz, q⟩ | ⟨k, ds, z, rfl, m, hz, q⟩⟩ := q <;> cases (show y = .int i from ry)
 ·cases (show x = sv z from rx)
  exact ⟨c', h1, h2, po_v ok po (d := vS [c']) rfl q⟩
 ·obtain ⟨a, vs, e, h1, h2⟩ := rx
  cases e
  obtain ⟨v, g1, g2⟩ := Z3e h2.a2 hz
  exact ⟨vs, v, .inl (Zgg (ok.rl.same _ _ h1)), g1, po_v ok po (d := .v z) g2 q⟩
 ·obtain ⟨a, vs, e, h1, h2⟩ := rx
  cases e
  obtain ⟨v, g1, g2⟩ := Z3e h2.a2 hz
  exact ⟨vs, v, .inr (Same.seqT ok.rl.same h1), g1, po_v ok po (d := .v z) g2 q⟩
 ·obtain ⟨a, e, ea⟩ := rx
  cases ea
  obtain ⟨h1, o, h2, vs, rfl, h3⟩ := ok.rl.live k a _ e m
  obtain ⟨v, g1, g2⟩ := Z3e h3 hz
  exact ⟨vs, v, .inl (Zgg h2), g1, po_v ok po g2 q⟩
theorem A2.cut {α β : Type} {R : α → β → Prop} {xs : List α} {vs : List β} (r : A2 R xs vs) (lo hi : Option Int) : A2 R (cut xs lo hi) (cut vs lo hi) := by
 unfold Cl.cut
 rw [r.len]
 exact (r.drop _).take _
def uSl : D → Option Int → Option Int → Mem → DQ → Prop := fun x lo hi M Q => (∃ z, x = vS z ∧ z.length ≤ sizeLine ∧ Q (vS (cut z lo hi)) M) ∨ (∃ xs, x = vL xs ∧ Q (vL (cut xs lo hi)) M) ∨ (∃ ns, x = .v (.scr ns) ∧ Q (vL ((cut ns lo hi).map PV.int)) M) ∨
 ∃ k ds xs, x = .cell k ∧ M[k]? = some (some (.lst ds)) ∧ Za2 ds = some xs ∧ Q (vL (cut xs lo hi)) M
theorem Z9u {K : PySem.W.Frag} {cs : List Cn} {F : Hp} (ns : List Int) : RpL K cs F (ns.map PV.int) (ns.map V.int) := (A2.of_map (R := Rp K cs F) (f := PV.int) (g := V.int) (fun _ => rfl) ns).rpL
theorem Z8k : SimL S (zSl S.K) uSl := fun c M x dx lo hi Q Qd ok rx q po => by
 rcases q with ⟨z, rfl, h, q⟩ | ⟨xs, rfl, q⟩ | ⟨ns, rfl, q⟩ | ⟨k, ds, xs, rfl, m, hp, q⟩
 ·cases (show x = sv z from rx)
  exact ⟨h, po_v ok po (d := vS _) rfl q⟩
 ·obtain ⟨a, vs, e, h1, h2⟩ := rx
  cases e
  exact ⟨vs, Zgg (ok.rl.same _ _ h1), fun p hp => Zfx ok po hp (h2.a2.cut lo hi).rpL q⟩
 ·obtain ⟨a, e, h1⟩ := rx
  cases e
  refine ⟨_, ok.rl.same.seq h1, fun p hp => Zfx ok po hp ?_ q⟩
  rw [Zjv]
  exact Z9u _
 ·obtain ⟨a, e, ea⟩ := rx
  cases ea
  obtain ⟨h1, o, h2, vs, rfl, h3⟩ := ok.rl.live k a _ e m
  exact ⟨vs, Zgg h2, fun p hp' => Zfx ok po hp' ((Zck h3 hp).a2.cut lo hi).rpL q⟩
def uSlT : D → Option Int → Option Int → Mem → DQ → Prop := fun x lo hi M Q => ∃ xs, x = vT xs ∧ ¬ (HT.sIx xs.length 0 lo = 0 ∧ HT.sIx xs.length xs.length hi = xs.length) ∧ Q (vT (cut xs lo hi)) M
theorem Z6d : SimL S (rSlT S.K) uSlT := fun c M x dx lo hi Q Qd ok rx q po => by
 obtain ⟨xs, rfl, h, q⟩ := q
 obtain ⟨a, vs, e, h1, h2⟩ := rx
 refine ⟨a, vs, e, Same.seqT ok.rl.same h1, by rw [← h2.len]; exact h, fun p hp => Z6s ok po hp (h2.a2.cut lo hi).rpL q⟩
def dRev (a : DE) : DE := fun ds M Q => a ds M fun x M1 => ∃ z, x = .v (.str z) ∧ z.length ≤ sizeLine ∧ Q (.v (.str z.reverse)) M1
def Znh (r r' : DR2) (a b e : DE) : DE := fun ds M Q => a ds M fun x M1 => b ds M1 fun y M2 => r x y M2 fun z M3 => ∃ k, z = .v (.bl k) ∧ if k = true then e ds M3 fun u M4 => r' y u M4 Q else Q (.v (.bl false)) M3
theorem Zl5 {r r' : R2} {d d' : DR2} {ta tb tc : TE} {da db dc : DE} (hr : SimO S r d) (hr' : SimO S r' d') (ha : SimE S ta da) (hb : SimE S tb db) (hc : SimE S tc dc) : SimE S (tChain r r' ta tb tc) (Znh d d' da db dc) := fun c M σ ds Q Qd ok rs q po =>
 ha c M σ ds _ _ ok rs q fun c1 M1 v1 d1 s1 r1 p1 q1 => hb c1 M1 σ ds _ _ (ok.step s1 r1) (rs.step s1) q1 fun c2 M2 v2 d2 s2 r2 p2 q2 => by
  have ok2 := (ok.step s1 r1).step s2 r2
  refine hr c2 M2 v1 v2 d1 d2 _ _ ok2 (Sc.Vd.step p1 s2) p2 q2 fun c3 M3 v3 d3 s3 r3 p3 ⟨k, e, q3⟩ => ?_
  subst e
  cases (show v3 = .bl k from p3)
  refine ⟨k, rfl, ?_⟩
  cases k with
  | true => exact hc c3 M3 σ ds _ _ (ok2.step s3 r3) (((rs.step s1).step s2).step s3) q3 fun c4 M4 v4 d4 s4 r4 p4 q4 => hr' c4 M4 v2 v4 d2 d4 _ _ ((ok2.step s3 r3).step s4 r4) (Sc.Vd.step (Sc.Vd.step p2 s3) s4) p4 q4 (po.step (((s1.trans s2).trans s3).trans s4))
  | false => exact po c3 M3 _ (vB false) ((s1.trans s2).trans s3) r3 rfl q3
end
open StX (CallO callO_with)
section
variable {S : Sc}
abbrev sgn (z : List Nat) : List PV := z.map fun c => .str [c]
theorem Zxa {K : PySem.W.Frag} {cs : List Cn} {F : Hp} (z : List Nat) : RpL K cs F (sgn z) (sgs z) := (A2.of_map (R := Rp K cs F) (f := fun c => PV.str [c]) (g := fun c => sv [c]) (fun _ => rfl) z).rpL
theorem ld1 {c : CS} {d : D} {vs : List V} (r : S.Ld c [d] vs) : ∃ v, vs = [v] ∧ S.Vd c d v := by
 cases r with
 | cons r t => cases t; exact ⟨_, rfl, r⟩
theorem ld2 {c : CS} {d e : D} {vs : List V} (r : S.Ld c [d, e] vs) : ∃ v u, vs = [v, u] ∧ S.Vd c d v ∧ S.Vd c e u := by
 cases r with
 | cons r t =>
  obtain ⟨u, rfl, q⟩ := ld1 t
  exact ⟨_, _, rfl, r, q⟩
def uLen : DR := fun xs M Q => ∃ d, xs = [d] ∧ ((∃ z, d = vS z ∧ z.length ≤ sizeLine ∧ Q (vI z.length) M) ∨ ∃ ys, sqOf M d = some ys ∧ Q (vI ys.length) M)
theorem Zz1 {P : Program} {w : World} : SimR S (Zr9 P w S.K) uLen := fun c M vs ds Q Qd ok r0 q po => by
 obtain ⟨d, rfl, h⟩ := q
 obtain ⟨v, rfl, r⟩ := ld1 r0
 refine Or.inl ⟨v, ?_⟩
 rcases h with ⟨z, rfl, hz, q⟩ | ⟨ys, hy, q⟩
 ·cases (show v = sv z from r)
  exact ⟨z.length, rfl, ⟨hz, rfl⟩, po_v ok po (d := vI z.length) rfl q⟩
 ·obtain ⟨a, vs, rfl, h1, h2⟩ := Zyf ok r hy
  refine ⟨vs.length, rfl, ?_, ?_⟩
  ·rcases h1 with h1 | h1
   ·exact Or.inl ⟨vs, h1, rfl⟩
   ·exact Or.inr ⟨vs, h1, rfl⟩
  ·rw [← h2.len]
   exact po_v ok po (d := vI ys.length) rfl q
def Zzi : DR := fun xs M Q => ∃ z, xs = [vS z] ∧ z.length ≤ 1000 ∧ ∀ n : Nat, decide ((n : Int) = (z.length : Int)) = decide z.Nodup → Q (vI n) M
def Zrs (a : DA) : DE := dCB Zzi a
theorem Zo1 {P : Program} {w : World} {ta : TA} {da : DA} (ha : SimA S ta da) : SimE S (tCB (Zr9 P w S.K) (tCons (tCB (zSet P w) ta) tNil)) (Zrs da) := fun c M σ ds Q Qd ok rs q po =>
 ha c M σ ds _ _ ok rs q fun c1 M1 v1 d1 s1 r1 p1 ⟨z, e, hz, q1⟩ => by
  subst e
  obtain ⟨v, rfl, r⟩ := ld1 p1
  cases (show v = sv z from r)
  refine ⟨hz, fun p l hp nd m hl => Or.inr ⟨p, l, rfl, upd_same, by omega, ?_⟩⟩
  obtain ⟨r2, s2⟩ := r1.Zpf hp (TxS P w p l)
  exact po ⟨_, _, _⟩ M1 _ (vI l.length) (s1.trans s2) r2 rfl (q1 l.length (Zvp nd m))
def uSrt : DR := fun xs M Q => ∃ z, xs = [vS z] ∧ z.length < 64 ∧ Q (vL (sgn (srt z))) M
theorem Zzz {P : Program} {w : World} : SimR S (Zhf P w S.K) uSrt := fun c M vs ds Q Qd ok r0 q po => by
 obtain ⟨z, rfl, hz, q⟩ := q
 obtain ⟨v, rfl, r⟩ := ld1 r0
 cases (show v = sv z from r)
 refine Or.inl ⟨hz, fun zs p pm so hp => ?_⟩
 rw [Zsq pm so]
 exact Zfx ok po hp (Zxa _) q
def Zro (a : DA) : DE := dCB (fun xs M Q => ∃ z, xs = [vS z] ∧ z.length < 64 ∧ ∀ ys : List Nat, ys.Pairwise (· < ·) → (∀ c, c ∈ ys ↔ c ∈ z) → Q (vL (sgn ys)) M) a
theorem Zox {P : Program} {w : World} {ta : TA} {da : DA} (ha : SimA S ta da) : SimE S (tCB (Zhf P w S.K) (tCons (tCB (zSet P w) ta) tNil)) (Zro da) := fun c M σ ds Q Qd ok rs q po =>
 ha c M σ ds _ _ ok rs q fun c1 M1 v1 d1 s1 r1 p1 ⟨z, e, hz, q1⟩ => by
  subst e
  obtain ⟨v, rfl, r⟩ := ld1 p1
  cases (show v = sv z from r)
  refine ⟨by omega, fun p l hp nd m hl => Or.inr ⟨p, l, rfl, upd_same, by omega, nd, fun zs p' pm so hp' => ?_⟩⟩
  obtain ⟨r2, s2⟩ := r1.Zpf hp (TxS P w p l)
  have sub : ∀ x, x ∈ zs → ∃ c, x = Cl.S [c] := fun x hx => by
   obtain ⟨c, _, e⟩ := (m x).mp (pm.mem_iff.mp hx)
   exact ⟨c, e⟩
  obtain ⟨ys, rfl⟩ : ∃ ys : List Nat, zs = ys.map fun c => Cl.S [c] := by
   clear pm so
   induction zs with
   | nil => exact ⟨[], rfl⟩
   | cons x t ih =>
    obtain ⟨c, e⟩ := sub x Qo
    obtain ⟨ys, e'⟩ := ih fun x hx => sub x (Qk _ hx)
    exact ⟨c :: ys, by rw [e, e']; rfl⟩
  have hs : ys.Pairwise (· ≤ ·) := by
   cases ys with
   | nil => exact List.Pairwise.nil
   | cons c y => exact Zgw y c so
  have hn : ys.Nodup := Ziu.mp (pm.nodup_iff.mpr nd)
  have hlt : ys.Pairwise (· < ·) := (hs.and hn).imp fun {a b} h => Nat.lt_of_le_of_ne h.1 h.2
  have hm : ∀ c, c ∈ ys ↔ c ∈ z := fun c => by
   have e1 : Cl.S [c] ∈ (ys.map fun c => Cl.S [c]) ↔ Cl.S [c] ∈ l := pm.mem_iff
   rw [m (Cl.S [c])] at e1
   constructor
   ·intro h
    obtain ⟨d, hd, e⟩ := e1.mp (Qz.mpr ⟨c, h, rfl⟩)
    injection e with e
    injection e with e
    injection e with e
    rw [e]
    exact hd
   ·intro h
    obtain ⟨d, hd, e⟩ := Qz.mp (e1.mpr ⟨c, h, rfl⟩)
    injection e with e
    injection e with e
    injection e with e
    rw [← e]
    exact hd
  rw [← Z6p]
  exact Zfx (c := ⟨_, _, _⟩) ((ok.step s1 r1).step s2 r2) (po.step (s1.trans s2)) hp' (Zxa _) (q1 ys hlt hm)
def Zuz : DR := fun xs M Q => ∃ d, xs = [d] ∧ ((∃ z, d = vS z ∧ z.length ≤ sizeLine ∧ Q (vL (sgn z)) M) ∨ ∃ ys ps, sqOf M d = some ys ∧ Za2 ys = some ps ∧ Q (vL ps) M)
def Zww : DR := fun xs M Q => ∃ d, xs = [d] ∧ ((∃ z, d = vS z ∧ z.length ≤ sizeLine ∧ Q (.cell M.length) (M ++ [some (.lst ((sgn z).map D.v))])) ∨ ∃ ys, sqOf M d = some ys ∧ Q (.cell M.length) (M ++ [some (.lst ys)]))
theorem Zu5 : SimR S (Zr8 S.K) Zuz := fun c M vs ds Q Qd ok r0 q po => by
 obtain ⟨d, rfl, h⟩ := q
 obtain ⟨v, rfl, r⟩ := ld1 r0
 rcases h with ⟨z, rfl, hz, q⟩ | ⟨ys, ps, hy, hp, q⟩
 ·cases (show v = sv z from r)
  exact ⟨hz, fun l hl => Zfx ok po hl (Zxa z) q⟩
 ·obtain ⟨a, vs, rfl, h1, h2⟩ := Zyf ok r hy
  exact ⟨vs, h1, fun l hl => Zfx ok po hl (Zck h2 hp) q⟩
theorem Zpm : SimR S (Zr8 S.K) Zww := fun c M vs ds Q Qd ok r0 q po => by
 obtain ⟨d, rfl, h⟩ := q
 obtain ⟨v, rfl, r⟩ := ld1 r0
 rcases h with ⟨z, rfl, hz, q⟩ | ⟨ys, hy, q⟩
 ·cases (show v = sv z from r)
  exact ⟨hz, fun l hl => Zqv ok po hl (RpL.ds (Zxa z)) q⟩
 ·obtain ⟨a, vs, rfl, h1, h2⟩ := Zyf ok r hy
  exact ⟨vs, h1, fun l hl => Zqv ok po hl h2 q⟩
def Z71 : List V → Hp → VK → Prop := fun xs H Q => (∃ i, xs = [.int i] ∧ Q (.int i) H) ∨ ∃ k, xs = [.bl k] ∧ Q (.int (if k then 1 else 0)) H
theorem Yac {X : Cx} : CallR X (.type "int") Z71 := call_int1
def uInt : DR := fun xs M Q => (∃ i, xs = [vI i] ∧ Q (vI i) M) ∨ ∃ k, xs = [vB k] ∧ Q (vI (if k then 1 else 0)) M
theorem Zz2 : SimR S Z71 uInt := fun c M vs ds Q Qd ok r0 q po => by
 rcases q with ⟨i, rfl, q⟩ | ⟨k, rfl, q⟩ <;> obtain ⟨v, rfl, r⟩ := ld1 r0
 ·cases (show v = .int i from r)
  exact Or.inl ⟨i, rfl, po_v ok po (d := vI i) rfl q⟩
 ·cases (show v = .bl k from r)
  exact Or.inr ⟨k, rfl, po_v ok po (d := vI (if k then 1 else 0)) rfl q⟩
def Z7z : List V → Hp → VK → Prop := fun xs H Q => ∃ i, xs = [.int i] ∧ i.natAbs.log2 < 1920 ∧ Q (.str (toString i)) H
theorem Yaa {X : Cx} : CallR X (.type "str") Z7z := call_str_int
def figs (i : Int) : List Nat := ((toString i : Str)).cps.toList
def uStr : DR := fun xs M Q => ∃ i, xs = [vI i] ∧ i.natAbs.log2 < 1920 ∧ Q (vS (figs i)) M
theorem Zzy : SimR S Z7z uStr := fun c M vs ds Q Qd ok r0 q po => by
 obtain ⟨i, rfl, h, q⟩ := q
 obtain ⟨v, rfl, r⟩ := ld1 r0
 cases (show v = .int i from r)
 exact ⟨i, rfl, h, po_v ok po (d := vS (figs i)) rfl q⟩
def Zzk : DR := fun xs M Q => ∃ k, xs = [vB k] ∧ Q (vB k) M
theorem Zz3 : SimR S (Z3t S.K) Zzk := fun c M vs ds Q Qd ok r0 q po => by
 obtain ⟨k, rfl, q⟩ := q
 obtain ⟨v, rfl, r⟩ := ld1 r0
 cases (show v = .bl k from r)
 exact po_v ok po (d := vB k) rfl q
def truD (M : Mem) : D → Option Bool
 | .v .non => some false
 | .v (.bl b) => some b
 | .v (.int i) => some (i != 0)
 | .v (.str z) => some (!z.isEmpty)
 | .v (.lst xs) => some (!xs.isEmpty)
 | .v (.tup xs) => some (!xs.isEmpty)
 | .cell i => (match M[i]? with
  | some (some (.lst ds)) => some (!ds.isEmpty)
  | some (some (.dct ds)) => some (!ds.isEmpty)
  | _ => none)
 | _ => none
theorem Zgd {α β : Type} {R : α → β → Prop} {xs : List α} {vs : List β} (r : A2 R xs vs) : vs.isEmpty = xs.isEmpty := by cases r <;> rfl
theorem Ya2 {c : CS} {M : Mem} (ok : S.Ok c M) {d : D} {v : V} {k : Bool} (r : S.Vd c d v) (h : truD M d = some k) (hz : ∀ z, d = vS z → z.length ≤ sizeLine) : TruV S.K v c.H k := by
 cases d with
 | v x =>
  cases x with
  | non => cases (show v = _ from r); cases h; rfl
  | bl b => cases (show v = _ from r); cases h; rfl
  | int i => cases (show v = _ from r); cases h; rfl
  | str z =>
   cases (show v = _ from r); cases h
   refine ⟨hz z rfl, ?_⟩
   cases z with
   | nil => rfl
   | cons a t =>
    show true = (((t.length + 1 : Nat) : Int) != 0)
    rw [Q7]
    simp
    omega
  | lst xs =>
   obtain ⟨a, vs, rfl, h1, h2⟩ := r
   cases h
   exact Or.inl ⟨vs, Zgg (ok.rl.same _ _ h1), by rw [Zgd h2.a2]⟩
  | tup xs =>
   obtain ⟨a, vs, rfl, h1, h2⟩ := r
   cases h
   exact Or.inr (Or.inl ⟨vs, Same.seqT ok.rl.same h1, by rw [Zgd h2.a2]⟩)
  | _ => cases h
 | cell i =>
  obtain ⟨a, e, rfl⟩ := r
  unfold truD at h
  dsimp only at h
  split at h
  ·rename_i xs m
   cases h
   obtain ⟨h1, o, h2, vs, rfl, h3⟩ := ok.rl.live i a _ e m
   exact Or.inl ⟨vs, Zgg h2, by rw [Zgd h3]⟩
  ·rename_i xs m
   cases h
   obtain ⟨h1, o, h2, vs, rfl, h3⟩ := ok.rl.live i a _ e m
   exact Or.inr (Or.inr ⟨vs, h2, by rw [Zgd h3]⟩)
  ·cases h
 | exn _ => cases h
def dTru (a : DE) : DT := fun ds M Q => a ds M fun x M1 => ∃ k, truD M1 x = some k ∧ (∀ z, x = vS z → z.length ≤ sizeLine) ∧ Q k M1
theorem Zlz {ta : TE} {da : DE} (ha : SimE S ta da) : SimT S (tTru S.K ta) (dTru da) := fun c M σ ds Q Qd ok rs q po =>
 ha c M σ ds _ _ ok rs q fun c1 M1 v1 d1 s1 r1 p1 ⟨k, e, hz, q1⟩ => ⟨k, Ya2 (ok.step s1 r1) p1 e hz, po c1 M1 k s1 r1 q1⟩
def tyS : D → Mem → Prop := fun d _ => ∃ z, d = vS z
def tyL : D → Mem → Prop := fun d M => ∃ ds, lsOf M d = some ds
def dBm (ty : D → Mem → Prop) (r : DM) (o : DE) (a : DA) : DE := fun ds M Q => o ds M fun x M1 => ty x M1 ∧ a ds M1 fun xs M2 => r x xs M2 Q
theorem ty_S {c : CS} {M : Mem} (ok : S.Ok c M) {d : D} {v : V} (r : S.Vd c d v) (h : tyS d M) : tyV S.K "str" v c.H := by
 obtain ⟨z, rfl⟩ := h
 cases (show v = sv z from r)
 rfl
theorem ty_L {c : CS} {M : Mem} (ok : S.Ok c M) {d : D} {v : V} (r : S.Vd c d v) (h : tyL d M) : tyV S.K "list" v c.H := by
 obtain ⟨ds, h⟩ := h
 obtain ⟨a, vs, rfl, h1, h2⟩ := Zvo ok r h
 exact Or.inl ⟨rfl, vs, Zgg h1⟩
theorem Z6n {T : String} {ty : D → Mem → Prop} (hty : ∀ c M d v, S.Ok c M → S.Vd c d v → ty d M → tyV S.K T v c.H) {r : V → List V → Hp → VK → Prop} {d : DM} {te : TE} {de : DE} {ta : TA} {da : DA} (hr : SimM S r d) (he : SimE S te de) (ha : SimA S ta da) : SimE S (tBM S.K T r te ta) (dBm ty d de da) := fun c M σ ds Q Qd ok rs q po =>
 he c M σ ds _ _ ok rs q fun c1 M1 v1 d1 s1 r1 p1 ⟨t1, q1⟩ => ⟨hty c1 M1 d1 v1 (ok.step s1 r1) p1 t1, ha c1 M1 σ ds _ _ (ok.step s1 r1) (rs.step s1) q1 fun c2 M2 v2 d2 s2 r2 p2 q2 =>
  hr c2 M2 v1 d1 v2 d2 _ _ ((ok.step s1 r1).step s2 r2) (Sc.Vd.step p1 s2) p2 q2 (po.step (s1.trans s2))⟩
theorem Zva {r : V → List V → Hp → VK → Prop} {d : DM} {te : TE} {de : DE} {ta : TA} {da : DA} (hr : SimM S r d) (he : SimE S te de) (ha : SimA S ta da) : SimE S (tBM S.K "str" r te ta) (dBm tyS d de da) := Z6n (fun _ _ _ _ ok r h => ty_S ok r h) hr he ha
theorem Zvb {r : V → List V → Hp → VK → Prop} {d : DM} {te : TE} {de : DE} {ta : TA} {da : DA} (hr : SimM S r d) (he : SimE S te de) (ha : SimA S ta da) : SimE S (tBM S.K "list" r te ta) (dBm tyL d de da) := Z6n (fun _ _ _ _ ok r h => ty_L ok r h) hr he ha
def uApp : DM := fun x xs M Q => ∃ k ds d, x = .cell k ∧ xs = [d] ∧ M[k]? = some (some (.lst ds)) ∧ ds.length < sizeLine ∧ Q (.v .non) (M.set k (some (.lst (ds ++ [d]))))
theorem Z0f : SimM S zApp uApp := fun c M x dx vs ds Q Qd ok rx rv0 q po => by
 obtain ⟨k, es, d, rfl, rfl, m, hl, q⟩ := q
 obtain ⟨v, rfl, rv⟩ := ld1 rv0
 obtain ⟨a, e, rfl⟩ := rx
 obtain ⟨h1, o, h2, ws, rfl, h3⟩ := ok.rl.live k a _ e m
 obtain ⟨r2, s2⟩ := ok.rl.setc e m (y := .lst (es ++ [d])) (o := .lst (ws ++ [v])) ⟨_, rfl, h3.append (.cons rv .nil)⟩
 exact ⟨ws, h2, by rw [← h3.len]; exact hl, po ⟨_, _, _⟩ _ _ (.v .non) s2 r2 rfl q⟩
def uPop : DM := fun x xs M Q => ∃ k ds i y, x = .cell k ∧ xs = [vI i] ∧ M[k]? = some (some (.lst ds)) ∧ 0 ≤ i ∧ i < ds.length ∧ ds.length ≤ sizeLine ∧ ds[i.toNat]? = some y ∧ Q y (M.set k (some (.lst (ds.eraseIdx i.toNat))))
theorem Z6c : SimM S zPop uPop := fun c M x dx vs ds Q Qd ok rx rv0 q po => by
 obtain ⟨k, es, i, y, rfl, rfl, m, h0, hi, hl, hy, q⟩ := q
 obtain ⟨v, rfl, rv⟩ := ld1 rv0
 cases (show v = .int i from rv)
 obtain ⟨a, e, rfl⟩ := rx
 obtain ⟨h1, o, h2, ws, rfl, h3⟩ := ok.rl.live k a _ e m
 obtain ⟨u, g1, g2⟩ := h3.get hy
 obtain ⟨r2, s2⟩ := ok.rl.setc e m (y := .lst (es.eraseIdx i.toNat)) (o := .lst (ws.eraseIdx i.toNat)) ⟨_, rfl, h3.erase _⟩
 exact ⟨ws, u, h2, h0, by rw [← h3.len]; exact hi, by rw [← h3.len]; exact hl, g1, po ⟨_, _, _⟩ _ _ y s2 r2 (Sc.Vd.step g2 s2) q⟩
def Zdn : DM := fun x xs M Q => ∃ a d ys, x = vS a ∧ xs = [d] ∧ sqOf M d = some ((ys.map PV.str).map D.v) ∧ (ys.map List.length).sum + ys.length * a.length ≤ 16777216 ∧ Q (vS (glue a ys)) M
theorem Z55 {c : CS} : ∀ {ys : List (List Nat)} {vs : List V}, S.Ld c ((ys.map PV.str).map D.v) vs → vs = ys.map sv
 | [], _, r => by cases r; rfl
 | y :: ys, _, r => by
  cases r with
  | cons r t =>
   rw [Z55 t]
   cases (show _ = sv y from r)
   rfl
theorem Zu7 : SimM S (Z3s S.K) Zdn := fun c M x dx vs ds Q Qd ok rx rv0 q po => by
 obtain ⟨a, d, ys, rfl, rfl, hs, hl, q⟩ := q
 obtain ⟨v, rfl, rv⟩ := ld1 rv0
 cases (show x = sv a from rx)
 obtain ⟨p, ws, rfl, h1, h2⟩ := Zyf ok rv hs
 rw [Z55 h2] at h1
 exact ⟨ys, h1, hl, po_v ok po (d := vS _) rfl q⟩
end
end Cl
namespace Cl
open PySem PySem.Spec PyProof.Rows L2 He ClX
open StX (CallO callO_with)
def spD (K : PySem.W.Frag) (cs : List Cn) (g : DSp) : Sp := fun vs H Q E => ∃ (c : CS) (M : Mem) (ds : List D) (Qd : DQ) (Ed : DX), c.H = H ∧ Rel K cs c M ∧ A2 (RpD K cs c.F c.ρ) ds vs ∧ g ds M Qd Ed ∧
 (∀ c' M' v d, Step c M c' M' → Rel K cs c' M' → RpD K cs c'.F c'.ρ d v → Qd d M' → Q v c'.H) ∧ (∀ c' M' cls d e, Step c M c' M' → Rel K cs c' M' → RpX K cs c' e cls d → Ed e M' → E cls d c'.H)
def Zac (n : Nat) (ds : List D) : DSt := ds.map some ++ List.replicate (n - ds.length) none
theorem Zhl {K : PySem.W.Frag} {cs : List Cn} {c : CS} {ds : List D} {vs : List V} {N : List Str} (r : A2 (RpD K cs c.F c.ρ) ds vs) : RpS K cs c (Zac N.length ds) (L2.start N vs) := by
 have hl := r.len
 refine ⟨by unfold Zac L2.start; simp [hl], fun i d e => ?_⟩
 unfold Zac at e
 unfold L2.start
 by_cases hi : i < ds.length
 ·rw [Qy (by simpa using hi), Qn] at e
  cases q : ds[i]? with
  | none => rw [q] at e; cases e
  | some d' =>
   rw [q] at e
   cases e
   obtain ⟨v, h1, h2⟩ := r.get q
   exact ⟨v, by rw [Qy (by rw [Qb, ← hl]; exact hi), Qn, h1]; rfl, h2⟩
 ·rw [Hu (by simpa using hi)] at e
  have := Qp e
  rw [List.mem_replicate] at this
  exact absurd this.2 (by simp)
def Zab (M : Mem) (Q : DQ) : DQ := fun d M' => (∀ i, d = .cell i → i < M.length) ∧ Exit M M' ∧ Q d (M'.take M.length)
def Zbf (M : Mem) (Q : DX) : DX := fun e M' => Exit M M' ∧ Q e (M'.take M.length)
theorem Ze0 {K : PySem.W.Frag} {cs : List Cn} {g : DSp} {N : List Str} {t : XK → TS} {d : DX → DS}
  (sim : ∀ (S : Sc) (E : XK) (Ed : DX), S.K = K → S.cs = cs → PoX S S.c0 S.M0 Ed E → SimS S (t E) (d Ed))
  (ref : ∀ ds M Q E, g ds M Q E → d E { nx := fun _ M' => Q (.v .non) M', rt := Q } (Zac N.length ds) M)
  (vs : List V) (H : Hp) (Q : VK) (E : XK) (h : spD K cs g vs H Q E) : t E { nx := fun _ H' => Q .non H', rt := Q } (L2.start N vs) H := by
 obtain ⟨c, M, ds, Qd, Ed, rfl, rl, ra, hg, hq, he⟩ := h
 refine sim ⟨K, cs, c, M⟩ E Ed rfl rfl he c M (L2.start N vs) (Zac N.length ds) _ { nx := fun _ M' => Qd (.v .non) M', rt := Qd } ⟨Step.refl _ _, rl⟩ (Zhl ra) (ref ds M Qd Ed hg) ⟨fun c' M' σ' ds' s r _ q => hq c' M' .non (.v .non) s r rfl q, fun c' M' v d s r p q => hq c' M' v d s r p q, fun _ _ _ _ _ _ _ q => q.elim, fun _ _ _ _ _ _ _ q => q.elim⟩
theorem Zld {K : PySem.W.Frag} {cs : List Cn} {g : DSp} {N : List Str} {t : XK → TS} {d : DX → DS}
  (sim : ∀ (S : Sc) (E : XK) (Ed : DX), S.K = K → S.cs = cs → PoX S S.c0 S.M0 Ed E → SimS S (t E) (d Ed))
  (ref : ∀ ds M Q E, g ds M Q E → d (Zbf M E) { nx := fun _ M' => Zab M Q (.v .non) M', rt := Zab M Q } (Zac N.length ds) M)
  (vs : List V) (H : Hp) (Q : VK) (E : XK) (h : spD K cs g vs H Q E) : t E { nx := fun _ H' => Q .non H', rt := Q } (L2.start N vs) H := by
 obtain ⟨c, M, ds, Qd, Ed, rfl, rl, ra, hg, hq, he⟩ := h
 have hq' : ∀ c' M' v d, Step c M c' M' → Rel K cs c' M' → RpD K cs c'.F c'.ρ d v → Zab M Qd d M' → Q v c'.H := fun c' M' v d s r p ⟨q1, q2, q3⟩ => by
  obtain ⟨r2, s2, e2⟩ := rl.cut r s q2
  exact hq ⟨c'.F, c'.ρ.take M.length, c'.H⟩ _ v d s2 r2 (p.low q1) q3
 have he' : ∀ c' M' cls d e, Step c M c' M' → Rel K cs c' M' → RpX K cs c' e cls d → Zbf M Ed e M' → E cls d c'.H := fun c' M' cls d e s r p ⟨q2, q3⟩ => by
  obtain ⟨r2, s2, e2⟩ := rl.cut r s q2
  exact he ⟨c'.F, c'.ρ.take M.length, c'.H⟩ _ cls d e s2 r2 p q3
 refine sim ⟨K, cs, c, M⟩ E (Zbf M Ed) rfl rfl he' c M (L2.start N vs) (Zac N.length ds) _ { nx := fun _ M' => Zab M Qd (.v .non) M', rt := Zab M Qd } ⟨Step.refl _ _, rl⟩ (Zhl ra) (ref ds M Qd Ed hg) ⟨fun c' M' σ' ds' s r _ q => hq' c' M' .non (.v .non) s r rfl q, fun c' M' v d s r p q => hq' c' M' v d s r p q, fun _ _ _ _ _ _ _ q => q.elim, fun _ _ _ _ _ _ _ q => q.elim⟩
theorem Zdp {K : PySem.W.Frag} {cs : List Cn} {g : DSp} {n : Nat} (h : ∀ ds M Q E, g ds M Q E → ds.length = n) (vs : List V) (H : Hp) (Q : VK) (E : XK) (q : spD K cs g vs H Q E) : vs.length = n := by
 obtain ⟨c, M, ds, Qd, Ed, rfl, rl, ra, hg, hq, he⟩ := q
 rw [← ra.len]
 exact h _ _ _ _ hg
section
variable {S : Sc}
variable {te ta tb : TE} {da db de : DE} {tt tu : TT} {dt du : DT} {tr : TA} {dr : DA} {ts us : TS} {dss dus : DS}
def noX : DX := fun _ _ => False
theorem Zkr {c : CS} {M : Mem} {E : XK} : PoX S c M noX E := fun _ _ _ _ _ _ _ _ q => q.elim
theorem Zov {c : CS} {M : Mem} {g : DSp} {vs : List V} {ds : List D} {Q : VK} {Qd : DQ} {E : XK} {Ed : DX} (ok : S.Ok c M) (r : S.Ld c ds vs) (h : g ds M Qd Ed) (po : PoE S c M Qd Q) (px : PoX S S.c0 S.M0 Ed E) : spD S.K S.cs g vs c.H Q E :=
 ⟨c, M, ds, Qd, Ed, rfl, ok.rl, r, h, po, fun c' M' cls d e s r p q => px c' M' cls d e (ok.st.trans s) r p q⟩
def Zau (g : DSp) (Ed : DX) (a : DA) : DE := fun ds M Q => a ds M fun xs M1 => g xs M1 Q Ed
theorem Zw8 {g : DSp} {E : XK} {Ed : DX} (px : PoX S S.c0 S.M0 Ed E) (ha : SimA S tr dr) : SimE S (tCall (spD S.K S.cs g) [] E tr) (Zau g Ed dr) := fun c M σ ds Q Qd ok rs q po =>
 ha c M σ ds _ _ ok rs q fun c1 M1 v1 d1 s1 r1 p1 q1 => by
  rw [Qx]
  exact Zov (ok.step s1 r1) p1 q1 (po.step s1) px
structure CsOk (K : PySem.W.Frag) (cs : List Cn) : Prop where
 cl : ∀ c ∈ cs, Cls K (ga K c.str)
 no : ∀ c ∈ cs, ∀ f ∈ c.flds, NoAttr K (ga K c.str) f.str
theorem Z2d {g f : Fd} {fs : List Fd} (h : ¬ g = f) : (g :: fs).idxOf f = fs.idxOf f + 1 := by
 rw [List.idxOf_cons, beq_eq_false_iff_ne.mpr h]
 rfl
theorem Zoo : ∀ (fs : List Fd) (vs : List V) (f : Fd) (v : V), vs[fs.idxOf f]? = some v → fs.idxOf f < fs.length → ((fs.map Fd.str).zip vs).lookup f.str = some v
 | [], _, _, _, _, h => by simp at h
 | g :: fs, [], f, v, e, _ => by simp at e
 | g :: fs, u :: vs, f, v, e, h => by
  show List.lookup f.str ((g.str, u) :: (fs.map Fd.str).zip vs) = some v
  by_cases hg : g = f
  ·subst hg
   rw [Lj] at e
   rw [Hj, beq_self_eq_true]
   simpa using e
  ·have hb : (f.str == g.str) = false := beq_eq_false_iff_ne.mpr fun q => hg (Fd.inj q).symm
   rw [Hj, hb]
   rw [Z2d hg] at e h
   exact Zoo fs vs f v (by simpa using e) (by simpa using h)
theorem Zws : ∀ (fs : List Fd) (vs : List V) (m : Str), (∀ f ∈ fs, f.str ≠ m) → ((fs.map Fd.str).zip vs).lookup m = none
 | [], _, _, _ => rfl
 | g :: fs, [], m, _ => rfl
 | g :: fs, u :: vs, m, h => by
  show List.lookup m ((g.str, u) :: (fs.map Fd.str).zip vs) = none
  have hb : (m == g.str) = false := beq_eq_false_iff_ne.mpr fun q => h g Qo q.symm
  rw [Hj, hb]
  exact Zws fs vs m fun f hf => h f (Qk _ hf)
def obOf (M : Mem) : D → Option (Cn × List D)
 | .v (.obj c xs) => some (c, xs.map D.v)
 | .cell i => (match M[i]? with
  | some (some (.obj c ds)) => some (c, ds)
  | _ => none)
 | _ => none
theorem Zkv {c : CS} {M : Mem} (ok : S.Ok c M) {d : D} {v : V} {k : Cn} {ds : List D} (r : S.Vd c d v) (h : obOf M d = some (k, ds)) : ∃ a dx vs, v = .ref a ∧ c.H a = some (.ins (ga S.K k.str) dx (fz k vs)) ∧ k ∈ S.cs ∧ ds.length ≤ k.flds.length ∧ S.Ld c ds vs := by
 cases d with
 | v x =>
  cases x with
  | obj k' xs =>
   cases h
   obtain ⟨a, dx, vs, e, h1, h2, h3, h4⟩ := r
   exact ⟨a, dx, vs, e, ok.rl.same _ _ h1, h2, by simpa using h3, RpL.ds h4⟩
  | _ => cases h
 | cell i =>
  unfold obOf at h
  dsimp only at h
  split at h
  ·rename_i k' xs m
   cases h
   obtain ⟨a, e, rfl⟩ := r
   obtain ⟨h1, o, h2, dx, vs, rfl, h3, h4, h5⟩ := ok.rl.live i a _ e m
   exact ⟨a, dx, vs, rfl, h2, h3, h4, h5⟩
  ·cases h
 | exn _ => cases h
def dFld (a : DE) (f : Fd) : DE := fun ds M Q => a ds M fun x M1 => ∃ k ys y, obOf M1 x = some (k, ys) ∧ ys[k.ix f]? = some y ∧ Q y M1
theorem Zp1 {f : Fd} (hc : CsOk S.K S.cs) (ha : SimE S ta da) : SimE S (tFld S.K ta f.str) (dFld da f) := fun c M σ ds Q Qd ok rs q po =>
 ha c M σ ds _ _ ok rs q fun c1 M1 v1 d1 s1 r1 p1 ⟨k, ys, y, h, hy, q1⟩ => by
  obtain ⟨a, dx, vs, rfl, h1, h2, h3, h4⟩ := Zkv (ok.step s1 r1) p1 h
  obtain ⟨u, g1, g2⟩ := h4.get hy
  have hl : k.ix f < k.flds.length := Lq (Qa.mp hy).1 h3
  exact ⟨a, _, dx, _, u, rfl, h1, hc.cl k h2, hc.no k h2 f (L0.mp hl), Zoo _ _ _ _ g1 hl, po_v (ok.step s1 r1) (po.step s1) g2 q1⟩
theorem Zza : ∀ (fs : List Fd) (vs : List V) (f : Fd) (v : V), fs.Nodup → fs.idxOf f < fs.length → fs.idxOf f ≤ vs.length → vs.length ≤ fs.length →
  putF f.str v ((fs.map Fd.str).zip vs) = (fs.map Fd.str).zip (if fs.idxOf f < vs.length then vs.set (fs.idxOf f) v else vs ++ [v])
 | [], _, _, _, _, h, _, _ => by simp at h
 | g :: fs, [], f, v, nd, h, hi, _ => by
  by_cases hg : g = f
  ·subst hg
   rw [Lj]
   show putF g.str v [] = (g.str :: fs.map Fd.str).zip [v]
   rw [Gz, List.zip_nil_right]
   rfl
  ·rw [Z2d hg] at hi
   simp at hi
 | g :: fs, u :: vs, f, v, nd, h, hi, hl => by
  show putF f.str v ((g.str, u) :: (fs.map Fd.str).zip vs) = _
  rw [show putF f.str v ((g.str, u) :: (fs.map Fd.str).zip vs) = (if g.str = f.str then (g.str, v) :: (fs.map Fd.str).zip vs else (g.str, u) :: putF f.str v ((fs.map Fd.str).zip vs)) from rfl]
  by_cases hg : g = f
  ·subst hg
   rw [if_pos rfl, Lj, if_pos (by simp)]
   rfl
  ·rw [if_neg fun q => hg (Fd.inj q)]
   rw [Z2d hg] at h hi ⊢
   rw [Zza fs vs f v (Hf.mp nd).2 (by simpa using h) (by simpa using hi) (by simpa using hl)]
   by_cases hlt : fs.idxOf f < vs.length
   ·rw [if_pos hlt, if_pos (by simpa using hlt)]
    rfl
   ·rw [if_neg hlt, if_neg (by simpa using hlt)]
    rfl
def setF (ds : List D) (i : Nat) (d : D) : List D := if i < ds.length then ds.set i d else ds ++ [d]
def dStF (o a : DE) (f : Fd) : DS := fun E ds M => a ds M fun y M1 => o ds M1 fun x M2 => ∃ i k ys, x = .cell i ∧ M2[i]? = some (some (.obj k ys)) ∧ k.ix f ≤ ys.length ∧ k.ix f < k.flds.length ∧ E.nx ds (M2.set i (some (.obj k (setF ys (k.ix f) y))))
theorem Z92 (k : Cn) : k.flds.length < 100 := by cases k <;> decide
theorem Ydy (k : Cn) (vs : List V) : (fz k vs).length < 1000 := by
 unfold fz
 rw [List.length_zip, Qb]
 have := Z92 k
 omega
theorem Zb7 {f : Fd} (hc : CsOk S.K S.cs) (ho : SimE S tb db) (ha : SimE S ta da) : SimS S (sFld S.K tb ta f.str) (dStF db da f) := fun c M σ ds E Ed ok rs q po =>
 ha c M σ ds _ _ ok rs q fun c1 M1 v1 d1 s1 r1 p1 q1 => ho c1 M1 σ ds _ _ (ok.step s1 r1) (rs.step s1) q1 fun c2 M2 v2 d2 s2 r2 p2 ⟨i, k, ys, e, m, hi, hf, q2⟩ => by
  subst e
  obtain ⟨a, e, rfl⟩ := p2
  obtain ⟨h1, o, h2, dx, vs, rfl, h3, h4, h5⟩ := r2.live i a _ e m
  have hl := h5.len
  have eq := Zza k.flds vs f v1 k.nodup hf (by rw [← hl]; exact hi) (by rw [← hl]; exact h4)
  have pd : RpD S.K S.cs c2.F c2.ρ d1 v1 := Sc.Vd.step p1 s2
  obtain ⟨r3, s3⟩ := r2.setc e m (y := .obj k (setF ys (k.ix f) d1)) (o := .ins (ga S.K k.str) dx (putF f.str v1 (fz k vs))) (by
   refine ⟨dx, _, by unfold fz; rw [eq], h3, ?_, ?_⟩
   ·unfold setF
    split
    ·simpa using h4
    ·rename_i hn
     have : k.ix f = ys.length := by omega
     simp
     omega
   ·unfold setF
    show A2 _ _ (if k.ix f < vs.length then vs.set (k.ix f) v1 else vs ++ [v1])
    rw [← hl]
    split
    ·exact h5.set pd _
    ·exact h5.append (.cons pd .nil))
  exact ⟨a, _, dx, _, rfl, h2, hc.cl k h3, hc.no k h3 f (L0.mp hf), Ydy k vs, po.nx ⟨_, _, _⟩ _ σ ds ((s1.trans s2).trans s3) r3 (((rs.step s1).step s2).step s3) q2⟩
def Zfn (okC : Addr → Sp → Prop) (m : Str) (dvs : List V) (E : XK) (ta : TE) (t : TA) : TE := fun σ H Q => ta σ H fun x H1 => ∃ a C dx fs sp, x = .ref a ∧ H1 a = some (.ins C dx fs) ∧ okC C sp ∧ fs.lookup m = none ∧ t σ H1 fun vs H2 => sp (x :: (vs ++ dvs)) H2 Q E
structure Znp (P : Program) (w : World) (K : PySem.W.Frag) (mg : Str → Option Value) (base : Heap) (CX : CXT) (k : Nat) (m : Str) (C : Addr) (sp : Sp) (dvs : List V) : Prop where
 cl : Cls K C
 ex : ∃ f fd ps ds, Meth K C m f ∧ FnOk P w K mg base CX k f fd ps sp ∧ Binds K fd ps ds ∧ Vals dvs ds
section
variable {X : Cx} {CX : CXT} {k : Nat} {okC : Addr → Sp → Prop} {dvs : List V} {E : XK} {m : Str} {pos apos : Pos} {e o : Expr} {es : List Expr} {ta : TE} {t : TA}
theorem Zf9 {pl : Sem Bool} (he : PE X o ta) (hk : ∀ C sp, okC C sp → Znp X.prog X.w X.K X.mg X.base CX k m C sp dvs) (hr : Room k X.A) (hx : Passes CX X E) (ha : PA X (e :: es) t)
  (hst : starEach (e :: es) X.env = (false, eval e X.env) :: starEach es X.env := by rfl) (hpl : (backTo pos (starEach es X.env)).any (·.1) = false := by rfl)
  (ht : eval (.Call (.Attribute o m apos) (e :: es) [] pos) X.env = (do
   let ov ← eval o X.env
   standAt apos.atName
   let (f, first) ← holding [ov] (getMethod ov m pl)
   callWith pos f first (backTo pos (starEach (e :: es) X.env)) (backToKw pos (keywordEach [] X.env))) := by rfl) :
  PE X (.Call (.Attribute o m apos) (e :: es) [] pos) (Zfn okC m dvs E ta t) := by
 refine ⟨fun pins s σ H Q I h => ?_⟩
 refine PySem.W.methodCall_KW (pl := pl) (thn (he.run pins s σ H _ I h) fun u s1 ⟨x, H1, I1, rx, a, C, dx, fs, sp, ex, ea, hc, l, q⟩ => ?_) ht
 obtain ⟨c, f, fd, ps, ds, hm, F, hb, hd⟩ := hk C sp hc
 subst ex
 obtain rfl : u = Value.ref a := rx
 refine getmeth_ok I1 ea c hm l ?_
 refine PySem.W.callWith_K (first := [.ref a]) (h₀ := X.base) I.ok.mod.kin hm.kp (thn (ha.run pos pins s1 σ H1 _ I1 q) fun us s2 ⟨vs, H2, I2, r, q2⟩ => ⟨I2.kIn, ?_⟩) hst hpl
 exact run_fn (us := .ref a :: us) (vs := .ref a :: vs) F hr hb hd hx I2 (.cons rfl r) q2
theorem Z08 {pl : Sem Bool} (he : PE X o ta) (hk : ∀ C sp, okC C sp → Znp X.prog X.w X.K X.mg X.base CX k m C sp dvs) (hr : Room k X.A) (hx : Passes CX X E)
  (ht : eval (.Call (.Attribute o m apos) [] [] pos) X.env = (do
   let ov ← eval o X.env
   standAt apos.atName
   let (f, first) ← holding [ov] (getMethod ov m pl)
   callWith pos f first (backTo pos (starEach [] X.env)) (backToKw pos (keywordEach [] X.env))) := by rfl) :
  PE X (.Call (.Attribute o m apos) [] [] pos) (Zfn okC m dvs E ta tNil) := by
 refine ⟨fun pins s σ H Q I h => ?_⟩
 refine PySem.W.methodCall_KW (pl := pl) (thn (he.run pins s σ H _ I h) fun u s1 ⟨x, H1, I1, rx, a, C, dx, fs, sp, ex, ea, hc, l, q⟩ => ?_) ht
 obtain ⟨c, f, fd, ps, ds, hm, F, hb, hd⟩ := hk C sp hc
 subst ex
 obtain rfl : u = Value.ref a := rx
 refine getmeth_ok I1 ea c hm l ?_
 exact PySem.W.callWith_K0 (first := [.ref a]) I1.kIn hm.kp (run_fn (us := [.ref a]) (vs := [.ref a]) F hr hb hd hx I1 (.cons rfl .nil) q)
end
def okM (K : PySem.W.Frag) (cs : List Cn) (g : Cn → Option DSp) (C : Addr) (sp : Sp) : Prop := ∃ k ∈ cs, C = ga K k.str ∧ ∃ q, g k = some q ∧ sp = spD K cs q
def Zc4 (g : Cn → Option DSp) (dv : List PV) (Ed : DX) (o : DE) (a : DA) : DE := fun ds M Q => o ds M fun x M1 => ∃ k ys sp, obOf M1 x = some (k, ys) ∧ g k = some sp ∧ a ds M1 fun xs M2 => sp (x :: (xs ++ dv.map D.v)) M2 Q Ed
theorem Zfc {m : Str} {g : Cn → Option DSp} {E : XK} {Ed : DX} {dv : List PV} {vv : List V} (hd : ∀ F, RpL S.K S.cs F dv vv) (px : PoX S S.c0 S.M0 Ed E) (hm : ∀ k, (g k).isSome = true → ∀ f ∈ k.flds, f.str ≠ m) (ho : SimE S tb db) (ha : SimA S tr dr) :
  SimE S (Zfn (okM S.K S.cs g) m vv E tb tr) (Zc4 g dv Ed db dr) := fun c M σ ds Q Qd ok rs q po =>
 ho c M σ ds _ _ ok rs q fun c1 M1 v1 d1 s1 r1 p1 ⟨k, ys, sp, h, hg, q1⟩ => by
  obtain ⟨a, dx, vs, e, h1, h2, h3, h4⟩ := Zkv (ok.step s1 r1) p1 h
  refine ⟨a, _, dx, _, _, e, h1, ⟨k, h2, rfl, sp, hg, rfl⟩, Zws _ _ _ (hm k (by rw [hg]; rfl)), ha c1 M1 σ ds _ _ (ok.step s1 r1) (rs.step s1) q1 fun c2 M2 v2 d2 s2 r2 p2 q2 => ?_⟩
  exact Zov ((ok.step s1 r1).step s2 r2) (.cons (Sc.Vd.step p1 s2) (p2.append (RpL.ds (hd c2.F)))) q2 (po.step (s1.trans s2)) px
def Zpd (g : Cn → Option DSp) (Ed : DX) (o : DE) (a : DA) : DE := fun ds M Q => o ds M fun x M1 => (∃ k ys, obOf M1 x = some (k, ys)) ∧ a ds M1 fun xs M2 => ∃ k ys sp, obOf M2 x = some (k, ys) ∧ g k = some sp ∧ sp (x :: xs) M2 Q Ed
theorem Zsz {f : Addr} {g0 : DSp} {g : Cn → Option DSp} {E : XK} {Ed : DX} (hg : ∀ k ∈ S.cs, ∀ sp, g k = some sp → sp = g0 ∧ CallO S.K (ga S.K k.str) f) (px : PoX S S.c0 S.M0 Ed E) (ho : SimE S tb db) (ha : SimA S tr dr) :
  SimE S (Zwz S.K f (fun vs => spD S.K S.cs g0 (vs ++ [])) E tb tr) (Zpd g Ed db dr) := fun c M σ ds Q Qd ok rs q po =>
 ho c M σ ds _ _ ok rs q fun c1 M1 v1 d1 s1 r1 p1 ⟨⟨k, ys, h⟩, q1⟩ => by
  obtain ⟨a, dx, vs, rfl, h1, h2, h3, h4⟩ := Zkv (ok.step s1 r1) p1 h
  refine ⟨a, rfl, ha c1 M1 σ ds _ _ (ok.step s1 r1) (rs.step s1) q1 fun c2 M2 v2 d2 s2 r2 p2 ⟨k', ys', sp, h', hk, q2⟩ => ?_⟩
  have ok2 := (ok.step s1 r1).step s2 r2
  obtain ⟨a', dx', vs', e', h1', h2', h3', h4'⟩ := Zkv ok2 (Sc.Vd.step p1 s2) h'
  cases e'
  obtain ⟨rfl, hc⟩ := hg k' h2' sp hk
  refine ⟨⟨_, dx', _, h1', hc⟩, ?_⟩
  show spD S.K S.cs _ (V.ref a :: v2 ++ []) c2.H Q E
  rw [Qx]
  exact Zov ok2 (.cons (Sc.Vd.step p1 s2) p2) q2 (po.step (s1.trans s2)) px
def dSup (ok : Cn → Bool) (g : DSp) (Ed : DX) (a : DA) : DE := fun ds M Q => ∃ x k ys, ds[0]? = some (some x) ∧ obOf M x = some (k, ys) ∧ ok k = true ∧ a ds M fun xs M1 => g (x :: xs) M1 Q Ed
theorem Zfq {m : Str} {Dd f : Addr} {okc : Cn → Bool} {g : DSp} {E : XK} {Ed : DX} (hs : ∀ k ∈ S.cs, okc k = true → Sup S.K (ga S.K k.str) Dd m f) (px : PoX S S.c0 S.M0 Ed E) (ha : SimA S tr dr) :
  SimE S (tSup S.K Dd m f (fun vs => spD S.K S.cs g (vs ++ [])) E tr) (dSup okc g Ed dr) := fun c M σ ds Q Qd ok rs ⟨x, k, ys, h0, h, hk, q⟩ po => by
 obtain ⟨v, hv, rv⟩ := rs.2 0 x h0
 obtain ⟨a, dx, vs, rfl, h1, h2, h3, h4⟩ := Zkv ok rv h
 refine ⟨a, _, dx, _, hv, h1, hs k h2 hk, ha c M σ ds _ _ ok rs q fun c1 M1 v1 d1 s1 r1 p1 q1 => ?_⟩
 show spD S.K S.cs _ (V.ref a :: v1 ++ []) c1.H Q E
 rw [Qx]
 exact Zov (ok.step s1 r1) (.cons (Sc.Vd.step rv s1) p1) q1 (po.step s1) px
def mkQ (k : Cn) (M : Mem) (Q : DQ) : DQ := fun d M2 => d = .v .non ∧ ∃ ys ps, M2[M.length]? = some (some (.obj k ys)) ∧ Za2 ys = some ps ∧ Exit M (M2.set M.length none) ∧ Q (.v (.obj k ps)) ((M2.set M.length none).take M.length)
def Zng (k : Cn) (g : DSp) (dv : List PV) (Ed : DX) (a : DA) : DE := fun ds M Q => a ds M fun xs M1 => g (.cell M1.length :: (xs ++ dv.map D.v)) (M1 ++ [some (.obj k [])]) (mkQ k M1 Q) (Zbf M1 Ed)
theorem Rel.newo {K : PySem.W.Frag} {cs : List Cn} {c : CS} {M : Mem} (r : Rel K cs c M) {k : Cn} (hk : k ∈ cs) {x dx : Addr} (hx : c.H x = none) (hd : c.H dx = none) (ne : dx ≠ x) :
  Rel K cs ⟨c.F, c.ρ ++ [x], upd (upd c.H dx (.own x)) x (.ins (ga K k.str) dx [])⟩ (M ++ [some (.obj k [])]) ∧ Step c M ⟨c.F, c.ρ ++ [x], upd (upd c.H dx (.own x)) x (.ins (ga K k.str) dx [])⟩ (M ++ [some (.obj k [])]) := by
 obtain ⟨r1, s1⟩ := r.Zpf hd (.own x)
 have hx' : upd c.H dx (.own x) x = none := by rw [upd_ne (Ne.symm ne)]; exact hx
 obtain ⟨r2, s2⟩ := r1.newc (p := x) hx' (x := .obj k []) (o := .ins (ga K k.str) dx []) ⟨dx, [], by unfold fz; rw [List.zip_nil_right], hk, Qr _, .nil⟩
 exact ⟨r2, s1.trans s2⟩
theorem Zpt {k : Cn} {g : DSp} {dv : List PV} {vv : List V} {E : XK} {Ed : DX} (hk : k ∈ S.cs) (hd : ∀ F, RpL S.K S.cs F dv vv) (px : PoX S S.c0 S.M0 Ed E) (ha : SimA S tr dr) : SimE S (tMake (ga S.K k.str) (spD S.K S.cs g) vv E tr) (Zng k g dv Ed dr) := fun c M σ ds Q Qd ok rs q po =>
 ha c M σ ds _ _ ok rs q fun c1 M1 v1 d1 s1 r1 p1 q1 => by
  intro x dx hx hdx ne
  obtain ⟨r2, s2⟩ := r1.newo hk hx hdx ne
  have ok1 := ok.step s1 r1
  have get : (c1.ρ ++ [x])[M1.length]? = some x := by rw [← r1.len]; simp
  refine ⟨⟨c1.F, c1.ρ ++ [x], upd (upd c1.H dx (.own x)) x (.ins (ga S.K k.str) dx [])⟩, M1 ++ [some (.obj k [])], .cell M1.length :: (d1 ++ dv.map D.v), _, _, rfl, r2, .cons ⟨x, get, rfl⟩ ((Sc.Ld.step p1 s2).append (RpL.ds (hd _))), q1, fun c3 M3 v3 d3 s3 r3 p3 ⟨e3, ys, ps, m3, hp, hex, q3⟩ => ?_, fun c3 M3 cls d e s3 r3 p3 ⟨hex, q3⟩ => ?_⟩
  ·subst e3
   cases (show v3 = .non from p3)
   refine ⟨rfl, ?_⟩
   have e3 : c3.ρ[M1.length]? = some x := Zha s3.pre get
   obtain ⟨o, h1, h2, h3, r4, s4⟩ := r3.freeze e3 m3
   obtain ⟨dx', vs', rfl, h5, h6, h7⟩ := h2
   obtain ⟨r5, s5, e5⟩ := r1.cut r4 (s2.trans (s3.trans s4)) hex
   refine po ⟨upd c3.F x (.ins (ga S.K k.str) dx' (fz k vs')), c3.ρ.take M1.length, c3.H⟩ _ (.ref x) (.v (.obj k ps)) (s1.trans s5) r5 ?_ q3
   refine ⟨x, dx', vs', rfl, upd_same, hk, ?_, RpL.same (Za8 h3) _ _ (Zck h7 hp)⟩
   rw [Zfe hp] at h6
   simpa using h6
  ·obtain ⟨r5, s5, e5⟩ := r1.cut r3 (s2.trans s3) hex
   exact px ⟨c3.F, c3.ρ.take M1.length, c3.H⟩ _ cls d e (ok1.st.trans s5) r5 p3 q3
def uEqO (k : Cn) (g : DSp) : DR2 := fun x y M Q => ∃ xs ys, obOf M x = some (k, xs) ∧ obOf M y = some (k, ys) ∧ g [x, y] M (fun d M' => ∃ b, d = vB b ∧ Q (vB b) M') noX
theorem Z6b {k : Cn} {g : DSp} : SimO S (rEqI (ga S.K k.str) (spD S.K S.cs g) E0) (uEqO k g) := fun c M x y dx dy Q Qd ok rx ry ⟨xs, ys, h1, h2, q⟩ po => by
 obtain ⟨a, dx', vs, rfl, g1, _⟩ := Zkv ok rx h1
 obtain ⟨b, dy', ws, rfl, g2, _⟩ := Zkv ok ry h2
 refine ⟨a, b, dx', dy', _, _, rfl, rfl, g1, g2, c, M, _, _, noX, rfl, ok.rl, .cons rx (.cons ry .nil), q, fun c' M' v d s r p ⟨k', e, q'⟩ => ?_, fun _ _ _ _ _ _ _ _ q => q.elim⟩
 subst e
 cases (show v = .bl k' from p)
 exact ⟨k', rfl, po c' M' _ (vB k') s r rfl q'⟩
def frz (M : Mem) : D → Option (PV × Mem)
 | .v x => some (x, M)
 | .cell i => (match M[i]? with
  | some (some (.lst ds)) => (Za2 ds).map fun xs => (.lst xs, M.set i none)
  | some (some (.obj k ds)) => (Za2 ds).map fun xs => (.obj k xs, M.set i none)
  | _ => none)
 | .exn _ => none
def dFrz (a : DE) : DE := fun ds M Q => a ds M fun x M1 => ∃ y M2, frz M1 x = some (y, M2) ∧ Q (.v y) M2
theorem Zp0 (ha : SimE S ta da) : SimE S ta (dFrz da) := fun c M σ ds Q Qd ok rs q po =>
 ha c M σ ds _ _ ok rs q fun c1 M1 v1 d1 s1 r1 p1 ⟨y, M2, h, q1⟩ => by
  cases d1 with
  | v x =>
   cases (show some (x, M1) = some (y, M2) from h)
   exact po c1 M1 v1 (.v y) s1 r1 p1 q1
  | cell i =>
   obtain ⟨a, e, rfl⟩ := p1
   unfold frz at h
   dsimp only at h
   split at h
   ·rename_i ds' m
    cases hp : Za2 ds' with
    | none => rw [hp] at h; cases h
    | some xs =>
     rw [hp] at h
     cases h
     obtain ⟨o, h1, h2, h3, r4, s4⟩ := r1.freeze e m
     obtain ⟨vs', rfl, h7⟩ := h2
     exact po ⟨upd c1.F a (.lst vs'), c1.ρ, c1.H⟩ _ _ (.v (.lst xs)) (s1.trans s4) r4 ⟨a, vs', rfl, upd_same, RpL.same (Za8 h3) _ _ (Zck h7 hp)⟩ q1
   ·rename_i k ds' m
    cases hp : Za2 ds' with
    | none => rw [hp] at h; cases h
    | some xs =>
     rw [hp] at h
     cases h
     obtain ⟨o, h1, h2, h3, r4, s4⟩ := r1.freeze e m
     obtain ⟨dx', vs', rfl, h5, h6, h7⟩ := h2
     refine po ⟨upd c1.F a (.ins (ga S.K k.str) dx' (fz k vs')), c1.ρ, c1.H⟩ _ _ (.v (.obj k xs)) (s1.trans s4) r4 ⟨a, dx', vs', rfl, upd_same, h5, ?_, RpL.same (Za8 h3) _ _ (Zck h7 hp)⟩ q1
     rw [Zfe hp] at h6
     simpa using h6
   ·cases h
  | exn _ => cases h
def hSub (o i : DE) : DG := fun y ds M Q => o ds M fun x M1 => i ds M1 fun j M2 => ∃ k es n l, x = .cell k ∧ j = vI n ∧ M2[k]? = some (some (.lst es)) ∧ ixN es.length n = some l ∧ Q ds (M2.set k (some (.lst (es.set l y))))
theorem Zpy (ho : SimE S ta da) (hi : SimE S tb db) : SimG S (gSub ta tb rSetL) (hSub da db) := fun c M σ ds y v Q Qd ok rs rv q po =>
 ho c M σ ds _ _ ok rs q fun c1 M1 v1 d1 s1 r1 p1 q1 => hi c1 M1 σ ds _ _ (ok.step s1 r1) (rs.step s1) q1 fun c2 M2 v2 d2 s2 r2 p2 ⟨k, es, n, l, e1, e2, m, hl, q2⟩ => by
  subst e1 e2
  obtain ⟨a, e, rfl⟩ := Sc.Vd.step p1 s2
  cases (show v2 = .int n from p2)
  obtain ⟨h1, o, h2, ws, rfl, h3⟩ := r2.live k a _ e m
  have rv2 : RpD S.K S.cs c2.F c2.ρ y v := Sc.Vd.step (Sc.Vd.step rv s1) s2
  obtain ⟨r3, s3⟩ := r2.setc e m (y := .lst (es.set l y)) (o := .lst (ws.set l v)) ⟨_, rfl, h3.set rv2 _⟩
  exact ⟨a, ws, n, l, rfl, rfl, h2, by rw [← h3.len]; exact hl, po ⟨_, _, _⟩ _ σ ds ((s1.trans s2).trans s3) r3 (((rs.step s1).step s2).step s3) q2⟩
def Zb6 (ds : DSt) : List Nat → DSt
 | [] => ds
 | v :: vs => (Zb6 ds vs).set v none
theorem Zln {c : CS} {ds : DSt} {σ : L2.St} (r : S.St c ds σ) : ∀ vs : List Nat, S.St c (Zb6 ds vs) (wipe σ vs)
 | [] => r
 | v :: vs => (Zln r vs).Yes v
def Zec (g : DG) (t : DT) (e : DE) (ds0 : DSt) (Q : List PV → Mem → Prop) : List D → List PV → Mem → Prop
 | [], acc, M => Q acc M
 | x :: xs, acc, M => g x ds0 M fun ds2 M2 => t ds2 M2 fun b M3 => if b = true then e ds2 M3 fun y M4 => ∃ z, y = .v z ∧ acc.length < sizeLine ∧ Zec g t e ds0 Q xs (acc ++ [z]) M4 else Zec g t e ds0 Q xs acc M3
def dLc (it : DI) (g : DG) (t : DT) (e : DE) (vs : List Nat) : DE := fun ds M Q => it ds M fun xs M1 => Zec g t e (Zb6 ds vs) (fun acc M2 => Q (vL acc) M2) xs [] M1
def dYes : DT := fun _ M Q => Q true M
theorem Zu8 : SimT S tYes dYes := fun c M σ ds Q Qd ok rs q po => po c M true (Step.refl _ _) ok.rl q
def GOwn (g : TG) (vs : List Nat) : Prop := ∀ x σ H Q, g x (wipe σ vs) H Q → g x (wipe σ vs) H fun σ2 H2 => wipe σ2 vs = wipe σ vs ∧ Q σ2 H2
theorem Zyd (σ : L2.St) (i : Nat) (v : Option V) : wipe ((wipe σ [i]).set i v) [i] = wipe σ [i] := by
 show ((σ.set i none).set i v).set i none = σ.set i none
 rw [Q2, Q2]
theorem Zty (i : Nat) : GOwn (gName i) [i] := fun x σ H Q h => ⟨Zyd σ i _, h⟩
theorem Z6e {ti : TI} {di : DI} {g : TG} {dg : DG} {vs : List Nat} (own : GOwn g vs) (hi : SimI S ti di) (hg : SimG S g dg) (ht : SimT S tt dt) (he : SimE S te de) : SimE S (tLc ti g tt te vs) (dLc di dg dt de vs) := fun c M σ ds Q Qd ok rs q po =>
 hi c M σ ds _ _ ok rs q fun c1 M1 J xs s1 r1 wk q1 => by
  intro P hP
  have ok1 := ok.step s1 r1
  obtain ⟨r2, s2⟩ := r1.Zpf hP (.lst [])
  have rs1 := rs.step s1
  obtain ⟨hPF, hPρ⟩ := r1.fresh hP
  refine ⟨fun i m H' => ∃ c2 M2 acc vs2, c2.H = H' ∧ m = xs.length - i ∧ i ≤ xs.length ∧ Step c1 M1 c2 M2 ∧ Rel S.K S.cs c2 M2 ∧ c2.H P = some (.lst vs2) ∧ c2.F P = none ∧ ¬ Live c2.ρ M2 P ∧ RpL S.K S.cs c2.F acc vs2 ∧ Zec dg dt de (Zb6 ds vs) (fun acc M2 => Qd (vL acc) M2) (xs.drop i) acc M2,
   ⟨xs.length, ⟨c1.F, c1.ρ, upd c1.H P (.lst [])⟩, M1, [], [], rfl, rfl, Qr _, s2, r2, upd_same, hPF, r1.Z88 hP, (rfl : ([] : List V) = []), q1⟩, ?_⟩
  rintro i m H' ⟨c2, M2, acc, vs2, rfl, rfl, hi, s2, r2, hP1, hP2, hP3, ra, q2⟩
  obtain ⟨w1, w2⟩ := wk i c2 M2 s2.same s2.pre r2
  by_cases hlt : i < xs.length
  ·obtain ⟨g1, g2⟩ := w2 xs[i] (by simp [hlt])
   rw [Qw hlt] at q2
   refine Or.inr ⟨g1, fun H'' => ∃ c3 M3 acc3 vs3, c3.H = H'' ∧ Step c1 M1 c3 M3 ∧ Rel S.K S.cs c3 M3 ∧ c3.H P = some (.lst vs3) ∧ c3.F P = none ∧ ¬ Live c3.ρ M3 P ∧ RpL S.K S.cs c3.F acc3 vs3 ∧ Zec dg dt de (Zb6 ds vs) (fun acc M2 => Qd (vL acc) M2) (xs.drop (i + 1)) acc3 M3,
    fun H'' ⟨c3, M3, acc3, vs3, e, s3, r3, h1, h2, h3, h4, h5⟩ => ⟨xs.length - (i + 1), by omega, c3, M3, acc3, vs3, e, rfl, hlt, s3, r3, h1, h2, h3, h4, h5⟩, fun x H'' hy => own _ _ _ _ ?_⟩
   obtain ⟨c3, rfl, s3, r3, p3⟩ := g2 x H'' hy
   have ok2 := ok1.step s2 r2
   have rs3 : S.St c3 (Zb6 ds vs) (wipe σ vs) := Zln ((rs1.step s2).step s3) vs
   have okP3 := s3.frame P _ hP1 hP2 hP3
   refine hg c3 M2 (wipe σ vs) (Zb6 ds vs) _ _ _ _ (ok2.step s3 r3) rs3 p3 q2 fun c4 M4 σ4 ds4 s4 r4 p4 q4 => ?_
   have okP4 := s4.frame P _ okP3.1 okP3.2.1 okP3.2.2
   have ok4 := (ok2.step s3 r3).step s4 r4
   refine ht c4 M4 σ4 ds4 _ _ ok4 p4 q4 fun c5 M5 b s5 r5 q5 => ?_
   have okP5 := s5.frame P _ okP4.1 okP4.2.1 okP4.2.2
   have st5 : Step c1 M1 c5 M5 := s2.trans (s3.trans (s4.trans s5))
   cases b with
   | false => exact ⟨c5, M5, acc, vs2, rfl, st5, r5, okP5.1, okP5.2.1, okP5.2.2, RpL.same (s3.same.trans (s4.same.trans s5.same)) _ _ ra, q5⟩
   | true =>
    refine he c5 M5 σ4 ds4 _ _ (ok4.step s5 r5) (p4.step s5) q5 fun c6 M6 v6 d6 s6 r6 p6 ⟨z, e6, hl, q6⟩ => ?_
    subst e6
    have okP6 := s6.frame P _ okP5.1 okP5.2.1 okP5.2.2
    have ra6 := RpL.same (K := S.K) (cs := S.cs) (s3.same.trans (s4.same.trans (s5.same.trans s6.same))) _ _ ra
    refine ⟨vs2, okP6.1, by rw [← ra.len]; exact hl, ⟨c6.F, c6.ρ, upd c6.H P (.lst (vs2 ++ [v6]))⟩, M6, acc ++ [z], vs2 ++ [v6], rfl, ?_, r6.Zjy okP6.1 okP6.2.1 okP6.2.2 _, upd_same, okP6.2.1, okP6.2.2, (ra6.a2.append (.cons p6 .nil)).rpL, q6⟩
    have st6 := st5.trans s6
    refine ⟨st6.same, st6.pre, fun a o h1 h2 h3 => ?_⟩
    obtain ⟨k1, k2, k3⟩ := st6.frame a o h1 h2 h3
    have hne : a ≠ P := fun z => by rw [z, hP] at h1; cases h1
    exact ⟨by show upd c6.H P (.lst (vs2 ++ [v6])) a = some o; rw [upd_ne hne]; exact k1, k2, k3⟩
  ·have e : xs.length = i := by omega
   rw [← e, Hl] at q2
   refine Or.inl ⟨w1 e, ?_⟩
   have r3 := r2.Zjz hP1 hP2 hP3
   have sF : Same c2.F (upd c2.F P (.lst vs2)) := Za8 hP2
   refine po ⟨upd c2.F P (.lst vs2), c2.ρ, c2.H⟩ M2 (.ref P) (vL acc) (s1.trans ⟨s2.same.trans sF, s2.pre, fun a o h1 h2 h3 => ?_⟩) r3 ⟨P, vs2, rfl, upd_same, RpL.same sF _ _ ra⟩ q2
   obtain ⟨k1, k2, k3⟩ := s2.frame a o h1 h2 h3
   have hne : a ≠ P := fun z => by rw [z, hP] at h1; cases h1
   exact ⟨k1, by show upd c2.F P (.lst vs2) a = none; rw [upd_ne hne]; exact k2, k3⟩
end
end Cl
namespace Cl
open PySem PySem.Spec PyProof.Rows L2 He ClX
open StX (CallO callO_with)
section
variable {S : Sc}
variable {te ta tb : TE} {da db de : DE} {tt tu : TT} {dt du : DT} {tr : TA} {dr : DA} {ts us : TS} {dss dus : DS}
def Zdc (k : Cn) (Ed : DX) (a : DA) : DS := fun _ ds M => a ds M fun xs M1 => ∃ ps, Za2 xs = some ps ∧ ps.length = k.flds.length ∧ Ed ⟨k, ps⟩ M1
theorem Zet {k : Cn} {f : Fd} {E : XK} {Ed : DX} (hf : k.flds = [f]) (px : PoX S S.c0 S.M0 Ed E) (ha : SimA S tr dr) : SimS S (Zem E (ga S.K k.str) (spX1 (ga S.K k.str) f.str) tr) (Zdc k Ed dr) := fun c M σ ds D' Dd ok rs q po =>
 ha c M σ ds _ _ ok rs q fun c1 M1 v1 d1 s1 r1 p1 ⟨ps, hp, hl, q1⟩ => by
  rw [hf] at hl
  match ps, hl with
  | [x], _ =>
   obtain rfl := Zfe hp
   obtain ⟨v, rfl, rv⟩ := ld1 p1
   have key := Z4b (E := E) (C := ga S.K k.str) (f := f.str) (v := v) (D := D') (σ := σ) (H := c1.H) fun d hd => by
    obtain ⟨r2, s2⟩ := r1.lay hd (.xd [(f.str, v)])
    refine px ⟨upd c1.F d (.xd [(f.str, v)]), c1.ρ, upd c1.H d (.xd [(f.str, v)])⟩ M1 _ _ ⟨k, [x]⟩ ((ok.step s1 r1).st.trans s2) r2 ⟨rfl, d, [v], rfl, ?_, _, _, rfl, Rp.same s2.same _ _ rv, rfl⟩ q1
    show upd c1.F d _ d = _
    rw [upd_same]
    show _ = some (HO.xd ((k.flds.map Fd.str).zip [v]))
    rw [hf]
    rfl
   exact key
def Z99 (g : Cn → Option DSp) (W : DSt → DX) (o : DE) (a : DA) : DE := fun ds M Q => o ds M fun x M1 => (∃ k ys, obOf M1 x = some (k, ys)) ∧ a ds M1 fun xs M2 => ∃ k ys sp, obOf M2 x = some (k, ys) ∧ g k = some sp ∧ sp (x :: xs) M2 Q (W ds)
def wTry (tb : List (Cn × Bool)) (i : Nat) (s : Addr → DErr → DS) (Wo : DSt → DX) (E : Zfi) : DSt → DX := fun ds e M => ∃ b, tb.lookup e.c = some b ∧
 (b = true → ∀ a, s a e { nx := fun ds' M' => E.nx (ds'.set i none) M', rt := E.rt, bk := fun ds' M' => E.bk (ds'.set i none) M', ct := fun ds' M' => E.ct (ds'.set i none) M' } (ds.set i (some (.exn a))) M) ∧ (b = false → Wo ds e M)
def dTry (tb : List (Cn × Bool)) (i : Nat) (b : (DSt → DX) → DS) (s : Addr → DErr → DS) (Wo : DSt → DX) : DS := fun E ds M => b (wTry tb i s Wo E) E ds M
def dXf (a : Addr) (e : DErr) (k : Cn) (f : Fd) (t : DE) : DE := fun ds M Q => t ds M fun x M1 => x = .exn a ∧ e.c = k ∧ k.ix f < k.flds.length ∧ ∃ y, e.xs[k.ix f]? = some y ∧ Q (.v y) M1
theorem Zp2 {k : Cn} {f : Str} {v : V} {x : PV} (cr : CRead S.K (ga S.K k.str) (.type "type")) (cv : ∃ u, CVal S.K (ga S.K k.str) (.type "type") f v u) (h : ∀ F, Rp S.K S.cs F x v) : SimE S (tCVal S.K (tC (.ref (ga S.K k.str))) f) (dC x) := fun c M σ ds Q Qd ok rs q po => by
 obtain ⟨u, cv⟩ := cv
 exact ⟨_, _, v, u, rfl, cr, cv, po_v ok po (d := .v x) (h c.F) q⟩
section
variable {κ α : Type} [DecidableEq κ]
def getG (kvs : List (κ × α)) (k : κ) : Option α := (kvs.find? fun kv => decide (kv.1 = k)).map (·.2)
def putG (kvs : List (κ × α)) (k : κ) (v : α) : List (κ × α) := if (kvs.any fun kv => decide (kv.1 = k)) = true then kvs.map (fun kv => if kv.1 = k then (kv.1, v) else kv) else kvs ++ [(k, v)]
end
theorem Ydx {κ α : Type} [DecidableEq κ] {R : α → V → Prop} {kds : List (κ × α)} {kvs : List (κ × V)} (r : A2 (fun p q => p.1 = q.1 ∧ R p.2 q.2) kds kvs) (k : κ) : (getG kds k = none ∧ valV kvs k = none) ∨ ∃ d v, getG kds k = some d ∧ valV kvs k = some v ∧ R d v := by
 induction r with
 | nil => exact Or.inl ⟨rfl, rfl⟩
 | @cons p q ps qs h t ih =>
  by_cases e : p.1 = k
  ·refine Or.inr ⟨p.2, q.2, ?_, ?_, h.2⟩
   ·unfold getG
    rw [Gu, decide_eq_true e]
    rfl
   ·unfold valV
    rw [Gu, decide_eq_true (h.1 ▸ e)]
    rfl
  ·have e1 : getG (p :: ps) k = getG ps k := by
    unfold getG
    rw [Gu, decide_eq_false e]
   have e2 : valV (q :: qs) k = valV qs k := by
    unfold valV
    rw [Gu, decide_eq_false (h.1 ▸ e)]
   rw [e1, e2]
   exact ih
theorem Yb4 {κ α : Type} [DecidableEq κ] {R : α → V → Prop} {kds : List (κ × α)} {kvs : List (κ × V)} (r : A2 (fun p q => p.1 = q.1 ∧ R p.2 q.2) kds kvs) (k : κ) {d : α} {v : V} (h : R d v) : A2 (fun p q => p.1 = q.1 ∧ R p.2 q.2) (putG kds k d) (putK kvs k v) := by
 have e : (kds.any fun kv => decide (kv.1 = k)) = (kvs.any fun kv => decide (kv.1 = k)) := by
  induction r with
  | nil => rfl
  | cons h t ih => rw [Lu, Lu, ih, h.1]
 unfold putG putK
 rw [e]
 split
 ·clear e
  rename_i hany
  clear hany
  induction r with
  | nil => exact .nil
  | @cons p q ps qs g t ih =>
   rw [Q3, Q3]
   refine .cons ?_ ih
   by_cases e : p.1 = k
   ·rw [if_pos e, if_pos (g.1 ▸ e)]
    exact ⟨g.1, h⟩
   ·rw [if_neg e, if_neg (g.1 ▸ e)]
    exact g
 ·exact r.append (.cons ⟨rfl, h⟩ .nil)
def kD : Key → D
 | .inl i => vI i
 | .inr z => vS z.cps.toList
theorem kd_v {c : CS} {k : Key} {v : V} (r : S.Vd c (kD k) v) : v = kV k := by
 cases k with
 | inl i => exact r
 | inr z => obtain ⟨⟨z⟩⟩ := z; exact r
def Zx3 : List (DE × DE) → DSt → Mem → (List (D × D) → Mem → Prop) → Prop
 | [], _, M, Q => Q [] M
 | (a, b) :: r, ds, M, Q => a ds M fun x M1 => b ds M1 fun y M2 => Zx3 r ds M2 fun ps M3 => Q ((x, y) :: ps) M3
inductive Zuo (S : Sc) : List (TE × TE) → List (DE × DE) → Prop
 | nil : Zuo S [] []
 | cons {ta tb : TE} {da db : DE} {ts : List (TE × TE)} {ds : List (DE × DE)} : SimE S ta da → SimE S tb db → Zuo S ts ds → Zuo S ((ta, tb) :: ts) ((da, db) :: ds)
theorem Z0j {tps : List (TE × TE)} {dps : List (DE × DE)} (h : Zuo S tps dps) : ∀ c M σ ds Q Qd, S.Ok c M → S.St c ds σ → Zx3 dps ds M Qd → (∀ c' M' ps qs, Step c M c' M' → Rel S.K S.cs c' M' → A2 (fun p q => S.Vd c' p.1 q.1 ∧ S.Vd c' p.2 q.2) ps qs → Qd ps M' → Q qs c'.H) → tPairs tps σ c.H Q := by
 induction h with
 | nil => exact fun c M σ ds Q Qd ok rs q po => po c M [] [] (Step.refl _ _) ok.rl .nil q
 | cons ha hb _ ih =>
  intro c M σ ds Q Qd ok rs q po
  refine ha c M σ ds _ _ ok rs q fun c1 M1 v1 d1 s1 r1 p1 q1 => hb c1 M1 σ ds _ _ (ok.step s1 r1) (rs.step s1) q1 fun c2 M2 v2 d2 s2 r2 p2 q2 => ?_
  refine ih c2 M2 σ ds _ _ ((ok.step s1 r1).step s2 r2) ((rs.step s1).step s2) q2 fun c3 M3 ps qs s3 r3 p3 q3 => ?_
  exact po c3 M3 _ _ ((s1.trans s2).trans s3) r3 (.cons ⟨Sc.Vd.step (Sc.Vd.step p1 s2) s3, Sc.Vd.step p2 s3⟩ p3) q3
def Zo5 {α : Type} (kvs : List (Key × α)) : List (Key × α) := kvs.foldl (fun acc kv => putG acc kv.1 kv.2) []
def Z98 (ps : List (DE × DE)) : DE := fun ds M Q => Zx3 ps ds M fun qs M1 => ∃ kvs : List (Key × PV), qs = kvs.map (fun kv => (kD kv.1, .v kv.2)) ∧ kvs.length ≤ 15 ∧ Q (.v (.dct ((Zo5 kvs).map (·.1)) ((Zo5 kvs).map (·.2)))) M1
theorem Z4q {R : PV → V → Prop} {kds : List (Key × PV)} {kvs : List (Key × V)} (r : A2 (fun p q => p.1 = q.1 ∧ R p.2 q.2) kds kvs) : A2 (fun p q => p.1 = q.1 ∧ R p.2 q.2) (Zo5 kds) (mergeK [] kvs) := by
 have key : ∀ {a : List (Key × PV)} {b : List (Key × V)}, A2 (fun p q => p.1 = q.1 ∧ R p.2 q.2) a b → A2 (fun p q => p.1 = q.1 ∧ R p.2 q.2) (kds.foldl (fun acc kv => putG acc kv.1 kv.2) a) (kvs.foldl (fun acc kv => putK acc kv.1 kv.2) b) := by
  induction r with
  | nil => exact fun h => h
  | cons g t ih =>
   intro a b h
   rw [Gs, Gs, ← g.1]
   exact ih (Yb4 h _ g.2)
 exact key .nil
theorem Zxn {R : PV → V → Prop} : ∀ {kds : List (Key × PV)} {kvs : List (Key × V)}, A2 (fun p q => p.1 = q.1 ∧ R p.2 q.2) kds kvs → ∃ vs, kvs = (kds.map (·.1)).zip vs ∧ A2 R (kds.map (·.2)) vs
 | _, _, .nil => ⟨[], rfl, .nil⟩
 | _, _, .cons (a := p) (b := q) g t => by
  obtain ⟨vs, e, h⟩ := Zxn t
  refine ⟨q.2 :: vs, ?_, .cons g.2 h⟩
  rw [e, Q3, Gz, g.1]
theorem Zxf {c : CS} : ∀ {kvs : List (Key × PV)} {qs : List (V × V)}, A2 (fun (p : D × D) (q : V × V) => S.Vd c p.1 q.1 ∧ S.Vd c p.2 q.2) (kvs.map fun kv => (kD kv.1, .v kv.2)) qs → ∃ rs : List (Key × V), qs = rs.map (fun kv => (kV kv.1, kv.2)) ∧ A2 (fun p q => p.1 = q.1 ∧ Rp S.K S.cs c.F p.2 q.2) kvs rs
 | [], _, h => by cases h; exact ⟨[], rfl, .nil⟩
 | kv :: kvs, _, h => by
  cases h with
  | @cons _ q _ _ g t =>
   obtain ⟨rs, e, h'⟩ := Zxf t
   refine ⟨(kv.1, q.2) :: rs, ?_, .cons ⟨rfl, g.2⟩ h'⟩
   rw [e, Q3]
   congr 1
   exact Prod.ext (kd_v g.1) rfl
theorem Zw7 {tps : List (TE × TE)} {dps : List (DE × DE)} (h : Zuo S tps dps) : SimE S (tDisp tps) (Z98 dps) := fun c M σ ds Q Qd ok rs q po => by
 intro p hp
 obtain ⟨r1, s1⟩ := ok.rl.Zpf hp (.dK [])
 have hn := ok.rl.Z88 hp
 obtain ⟨hF, hρ⟩ := ok.rl.fresh hp
 refine Z0j h ⟨c.F, c.ρ, upd c.H p (.dK [])⟩ M σ ds _ _ (ok.step s1 r1) (rs.step s1) q fun c2 M2 ps qs s2 r2 p2 ⟨kvs, e, hl, q2⟩ => ?_
 subst e
 obtain ⟨g1, g2, g3⟩ := s2.frame p (.dK []) upd_same hF hn
 obtain ⟨rs', rfl, p3⟩ := Zxf p2
 refine ⟨g1, rs', rfl, by rw [← p3.len]; exact hl, ?_⟩
 have r3 := r2.Zjy g1 g2 g3 (.dK (mergeK [] rs'))
 have r4 := r3.Zjz (p := p) (o := .dK (mergeK [] rs')) upd_same g2 g3
 have p4 := Z4q p3
 obtain ⟨vs, e, p5⟩ := Zxn p4
 have sF : Same c2.F (upd c2.F p (.dK (mergeK [] rs'))) := Za8 g2
 have st : Step c M ⟨upd c2.F p (.dK (mergeK [] rs')), c2.ρ, upd c2.H p (.dK (mergeK [] rs'))⟩ M2 := by
  have st2 := s1.trans s2
  refine ⟨st2.same.trans sF, st2.pre, fun a o h1 h2 h3 => ?_⟩
  obtain ⟨k1, k2, k3⟩ := st2.frame a o h1 h2 h3
  have hne : a ≠ p := fun z => by rw [z, hp] at h1; cases h1
  exact ⟨by show upd c2.H p _ a = _; rw [upd_ne hne]; exact k1, by show upd c2.F p _ a = _; rw [upd_ne hne]; exact k2, k3⟩
 refine po ⟨upd c2.F p (.dK (mergeK [] rs')), c2.ρ, upd c2.H p (.dK (mergeK [] rs'))⟩ M2 _ (.v (.dct _ _)) st r4 ⟨p, vs, rfl, ?_, by simp, RpL.same sF _ _ p5.rpL⟩ q2
 show upd c2.F p _ p = _
 rw [upd_same, ← e]
def dcOf (M : Mem) : D → Option (List (Key × D))
 | .v (.dct ks xs) => some (ks.zip (xs.map D.v))
 | .cell i => (match M[i]? with
  | some (some (.dct ds)) => some ds
  | _ => none)
 | _ => none
theorem Z53 {R : D → V → Prop} : ∀ {ks : List Key} {xs : List PV} {vs : List V}, ks.length = xs.length → A2 R (xs.map D.v) vs → A2 (fun p q => p.1 = q.1 ∧ R p.2 q.2) (ks.zip (xs.map D.v)) (ks.zip vs)
 | [], [], _, _, h => by cases h; exact .nil
 | k :: ks, x :: xs, _, hl, h => by
  cases h with
  | cons g t => exact .cons ⟨rfl, g⟩ (Z53 (by simpa using hl) t)
theorem Yd1 {c : CS} {M : Mem} (ok : S.Ok c M) {d : D} {v : V} {ds : List (Key × D)} (r : S.Vd c d v) (h : dcOf M d = some ds) : ∃ a vs, v = .ref a ∧ c.H a = some (.dK vs) ∧ A2 (RpKD S.K S.cs c.F c.ρ) ds vs := by
 cases d with
 | v x =>
  cases x with
  | dct ks xs =>
   cases h
   obtain ⟨a, vs, e, h1, h2, h3⟩ := r
   exact ⟨a, _, e, ok.rl.same _ _ h1, Z53 h2 (RpL.ds h3)⟩
  | _ => cases h
 | cell i =>
  unfold dcOf at h
  dsimp only at h
  split at h
  ·rename_i xs m
   cases h
   obtain ⟨a, e, rfl⟩ := r
   obtain ⟨h1, o, h2, vs, rfl, h3⟩ := ok.rl.live i a _ e m
   exact ⟨a, vs, rfl, h2, h3⟩
  ·cases h
 | exn _ => cases h
def Z2v (o a b : DE) : DE := fun ds M Q => o ds M fun x M1 => (∃ kvs, dcOf M1 x = some kvs) ∧ a ds M1 fun y M2 => b ds M2 fun z M3 => ∃ k kvs, y = kD k ∧ dcOf M3 x = some kvs ∧ Q ((getG kvs k).getD z) M3
theorem Zsy {tc : TE} {dc : DE} (ho : SimE S ta da) (ha : SimE S tb db) (hb : SimE S tc dc) : SimE S (tDGet2 ta tb tc) (Z2v da db dc) := fun c M σ ds Q Qd ok rs q po =>
 ho c M σ ds _ _ ok rs q fun c1 M1 v1 d1 s1 r1 p1 ⟨⟨kvs, h⟩, q1⟩ => by
  obtain ⟨a, vs, rfl, h1, h2⟩ := Yd1 (ok.step s1 r1) p1 h
  refine ⟨a, rfl, Or.inl ⟨vs, .inl h1⟩, ha c1 M1 σ ds _ _ (ok.step s1 r1) (rs.step s1) q1 fun c2 M2 v2 d2 s2 r2 p2 q2 => hb c2 M2 σ ds _ _ ((ok.step s1 r1).step s2 r2) ((rs.step s1).step s2) q2 fun c3 M3 v3 d3 s3 r3 p3 ⟨k, kvs', e, h', q3⟩ => ?_⟩
  have ok3 := ((ok.step s1 r1).step s2 r2).step s3 r3
  subst e
  obtain ⟨a', vs', e', h1', h2'⟩ := Yd1 ok3 (Sc.Vd.step (Sc.Vd.step p1 s2) s3) h'
  cases e'
  have ek := kd_v p2
  subst ek
  refine ⟨_, DGet.k h1', ?_⟩
  rcases Ydx (R := RpD S.K S.cs c3.F c3.ρ) h2' k with ⟨g1, g2⟩ | ⟨d, v, g1, g2, g3⟩
  ·rw [g2]
   rw [g1] at q3
   exact po c3 M3 _ _ ((s1.trans s2).trans s3) r3 p3 q3
  ·rw [g2]
   rw [g1] at q3
   exact po c3 M3 _ _ ((s1.trans s2).trans s3) r3 g3 q3
def dFmt (a : DE) : DE := fun ds M Q => a ds M fun x M1 => (∃ z, x = vS z ∧ z.length ≤ sizeLine ∧ Q (vS z) M1) ∨ ∃ i, x = vI i ∧ i.natAbs.log2 < 1920 ∧ Q (vS (figs i)) M1
theorem Z0p (ha : SimE S ta da) : SimE S (tFmt ta) (dFmt da) := fun c M σ ds Q Qd ok rs q po =>
 ha c M σ ds _ _ ok rs q fun c1 M1 v1 d1 s1 r1 p1 h => by
  rcases h with ⟨z, rfl, hz, q1⟩ | ⟨i, rfl, hi, q1⟩
  ·cases (show v1 = sv z from p1)
   exact Or.inl ⟨_, rfl, hz, po_v (ok.step s1 r1) (po.step s1) (d := vS z) rfl q1⟩
  ·cases (show v1 = .int i from p1)
   exact Or.inr ⟨i, rfl, hi, po_v (ok.step s1 r1) (po.step s1) (d := vS (figs i)) rfl q1⟩
def dJs : List DE → List Nat → DSt → Mem → (List Nat → Mem → Prop) → Prop
 | [], acc, _, M, Q => Q acc M
 | a :: r, acc, ds, M, Q => a ds M fun x M1 => ∃ z, x = vS z ∧ acc.length + z.length ≤ sizeLine ∧ dJs r (acc ++ z) ds M1 Q
def dFs (es : List DE) : DE := fun ds M Q => dJs es [] ds M fun z M1 => Q (vS z) M1
inductive Zup (S : Sc) : List TE → List DE → Prop
 | nil : Zup S [] []
 | cons {ta : TE} {da : DE} {ts : List TE} {ds : List DE} : SimE S ta da → Zup S ts ds → Zup S (ta :: ts) (da :: ds)
theorem Yba {tes : List TE} {des : List DE} (h : Zup S tes des) : ∀ acc c M σ ds Q Qd, S.Ok c M → S.St c ds σ → dJs des acc ds M Qd → (∀ c' M' z, Step c M c' M' → Rel S.K S.cs c' M' → Qd z M' → Q (Cl.S z) c'.H) → tJs tes (Cl.S acc) σ c.H Q := by
 induction h with
 | nil => exact fun acc c M σ ds Q Qd ok rs q po => po c M acc (Step.refl _ _) ok.rl q
 | cons ha _ ih =>
  intro acc c M σ ds Q Qd ok rs q po
  refine ha c M σ ds _ _ ok rs q fun c1 M1 v1 d1 s1 r1 p1 ⟨z, e, hz, q1⟩ => ?_
  subst e
  cases (show v1 = sv z from p1)
  refine ⟨Cl.S z, rfl, by rw [Yau, S_len, Qc]; exact hz, ?_⟩
  rw [Yau]
  exact ih _ c1 M1 σ ds _ _ (ok.step s1 r1) (rs.step s1) q1 fun c2 M2 z2 s2 r2 q2 => po c2 M2 z2 (s1.trans s2) r2 q2
theorem Z6g {tes : List TE} {des : List DE} (h : Zup S tes des) : SimE S (tFs tes) (dFs des) := fun c M σ ds Q Qd ok rs q po =>
 Yba h [] c M σ ds _ _ ok rs q fun c1 M1 z s1 r1 q1 => po c1 M1 _ (vS z) s1 r1 rfl q1
inductive Kd where
 | c (k : Cn) | t (n : String)
def Kd.val (K : PySem.W.Frag) : Kd → Value
 | .c k => .ref (ga K k.str)
 | .t n => .type n
def kdOf (M : Mem) (d : D) : Option Kd := match d with
 | .v .non => some (.t "NoneType")
 | .v (.bl _) => some (.t "bool")
 | .v (.int _) => some (.t "int")
 | .v (.str _) => some (.t "str")
 | .v (.lst _) => some (.t "list")
 | .v (.tup _) => some (.t "tuple")
 | d => (obOf M d).map fun p => .c p.1
def uIsi (tab : Kd → Option Bool) (tv : PV) : DR := fun xs M Q => ∃ d k b, xs = [d, .v tv] ∧ kdOf M d = some k ∧ tab k = some b ∧ Q (vB b) M
theorem Z58 {tab : Kd → Option Bool} {tv : PV} {cv : V} {u : Value} (hv : ∀ F, Rp S.K S.cs F tv cv) (hu : ∀ F v, Rp S.K S.cs F tv v → v = cv) (hc : ClsV cv u) (hcs : CsOk S.K S.cs) (hi : ∀ k ∈ S.cs, (tab (.c k)).isSome = true → ICls S.K (ga S.K k.str)) (ht : ∀ k b, (∀ n, k = .c n → n ∈ S.cs) → tab k = some b → PySem.W.kitOne S.K (k.val S.K) u = some b) : SimR S (zIsi S.K) (uIsi tab tv) := fun c M vs ds Q Qd ok r0 q po => by
 obtain ⟨d, k, b, rfl, hk, hb, q⟩ := q
 obtain ⟨v, w, rfl, r1, r2⟩ := ld2 r0
 have e2 := hu _ _ (show Rp S.K S.cs c.F tv w from r2)
 subst e2
 have fin : Q (.bl b) c.H := po_v ok po (d := vB b) rfl q
 have obj : ∀ (kn : Cn) (ys : List D), obOf M d = some (kn, ys) → tab (.c kn) = some b → zIsi S.K [v, w] c.H Q := fun kn ys ho hb => by
  obtain ⟨a, dx, vs, rfl, h1, h2, _⟩ := Zkv ok r1 ho
  exact Ybo h1 (hcs.cl kn h2) (hi kn h2 (by rw [hb]; rfl)) hc (ht (.c kn) b (fun n e => by cases e; exact h2) hb) fin
 have oth : ∀ t n, TyX S.K c.H v (.type t) → k = .t n → t = n → zIsi S.K [v, w] c.H Q := fun t n ty e e' => by
  subst e e'
  exact Or.inr ⟨_, _, _, _, b, rfl, hc, ty, ht (.t t) b (fun n e => by cases e) hb, fin⟩
 have viaObj : (obOf M d).map (fun p => Kd.c p.1) = some k → zIsi S.K [v, w] c.H Q := fun h => by
  cases ho : obOf M d with
  | none => rw [ho] at h; cases h
  | some p =>
   rw [ho] at h
   cases h
   exact obj p.1 p.2 ho hb
 cases d with
 | v x =>
  cases x with
  | non => cases hk; cases (show v = _ from r1); exact oth _ _ (.base .non) rfl rfl
  | bl i => cases hk; cases (show v = _ from r1); exact oth _ _ (.base (.bl _)) rfl rfl
  | int i => cases hk; cases (show v = _ from r1); exact oth _ _ (.base (.int _)) rfl rfl
  | str z => cases hk; cases (show v = _ from r1); exact oth _ _ (.base (.str _)) rfl rfl
  | lst xs => cases hk; obtain ⟨a, vs, rfl, h1, h2⟩ := r1; exact oth _ _ (.base (.lst (ok.rl.same _ _ h1))) rfl rfl
  | tup xs =>
   cases hk
   obtain ⟨a, vs, rfl, h1, h2⟩ := r1
   rcases Same.seqT ok.rl.same h1 with (h | ⟨o, h⟩) | ⟨o, its, n, h, hc, _⟩
   ·exact oth _ _ (.base (.tup h)) rfl rfl
   ·exact oth _ _ (.fTuple h) rfl rfl
   ·exact oth _ _ (.kTuple h hc) rfl rfl
  | _ => exact viaObj hk
 | cell i => exact viaObj hk
 | exn a => exact viaObj hk
end
end Cl
namespace Cl
open PySem PySem.Spec PyProof.Rows L2 He ClX
section
variable {S : Sc} {ta tb te : TE} {da db de : DE} {tr tk : TA} {dr dk : DA}
def Z96 (ok : Cn → Bool) (n m : Nat) (g : DSp) (Ed : DX) (a ak : DA) : DE := fun ds M Q => ∃ x k ys, ds[0]? = some (some x) ∧ obOf M x = some (k, ys) ∧ ok k = true ∧ a ds M fun xs M1 => ak ds M1 fun zs M2 => xs.length = n ∧ zs.length = m ∧ g ((x :: xs) ++ zs) M2 Q Ed
theorem Z36 {m : Str} {Dd f : Addr} {n mm : Nat} {okc : Cn → Bool} {g : DSp} {E : XK} {Ed : DX} (hs : ∀ k ∈ S.cs, okc k = true → Sup S.K (ga S.K k.str) Dd m f) (px : PoX S S.c0 S.M0 Ed E) (ha : SimA S tr dr) (hk : SimA S tk dk) :
  SimE S (Z77 S.K Dd m f n mm (spD S.K S.cs g) E tr tk) (Z96 okc n mm g Ed dr dk) := fun c M σ ds Q Qd ok rs ⟨x, k, ys, h0, h, hkk, q⟩ po => by
 obtain ⟨v, hv, rv⟩ := rs.2 0 x h0
 obtain ⟨a, dx, vs, rfl, h1, h2, h3, h4⟩ := Zkv ok rv h
 refine ⟨a, _, dx, _, hv, h1, hs k h2 hkk, ha c M σ ds _ _ ok rs q fun c1 M1 v1 d1 s1 r1 p1 q1 => hk c1 M1 σ ds _ _ (ok.step s1 r1) (rs.step s1) q1 fun c2 M2 v2 d2 s2 r2 p2 ⟨e1, e2, q2⟩ => ?_⟩
 have ok2 := (ok.step s1 r1).step s2 r2
 refine ⟨(A2.len p1).symm.trans e1, (A2.len p2).symm.trans e2, ?_⟩
 exact Zov ok2 (.cons (Sc.Vd.step (Sc.Vd.step rv s1) s2) ((Sc.Ld.step p1 s2).append p2)) q2 (po.step (s1.trans s2)) px
def Zud (k : Cn) (n m : Nat) (g : DSp) (Ed : DX) (a ak : DA) : DE := fun ds M Q => a ds M fun xs M0 => ak ds M0 fun zs M1 => xs.length = n ∧ zs.length = m ∧ g (.cell M1.length :: (xs ++ zs)) (M1 ++ [some (.obj k [])]) (mkQ k M1 Q) (Zbf M1 Ed)
theorem Zsw {k : Cn} {n m : Nat} {g : DSp} {E : XK} {Ed : DX} (hk : k ∈ S.cs) (px : PoX S S.c0 S.M0 Ed E) (ha : SimA S tr dr) (hkw : SimA S tk dk) : SimE S (tMakeK (ga S.K k.str) n m (spD S.K S.cs g) (fun vs zs => vs ++ zs) E tr tk) (Zud k n m g Ed dr dk) := fun c M σ ds Q Qd ok rs q po =>
 ha c M σ ds _ _ ok rs q fun c0 M0 v0 d0 s0 r0 p0 q0 => hkw c0 M0 σ ds _ _ (ok.step s0 r0) (rs.step s0) q0 fun c1 M1 v1 d1 s1 r1 p1 ⟨e1, e2, q1⟩ => by
  refine ⟨(A2.len p0).symm.trans e1, (A2.len p1).symm.trans e2, ?_⟩
  intro x dx hx hdx ne
  obtain ⟨r2, s2⟩ := r1.newo hk hx hdx ne
  have ok1 := (ok.step s0 r0).step s1 r1
  have s01 := s0.trans s1
  have get : (c1.ρ ++ [x])[M1.length]? = some x := by rw [← r1.len]; simp
  refine ⟨⟨c1.F, c1.ρ ++ [x], upd (upd c1.H dx (.own x)) x (.ins (ga S.K k.str) dx [])⟩, M1 ++ [some (.obj k [])], .cell M1.length :: (d0 ++ d1), _, _, rfl, r2, .cons ⟨x, get, rfl⟩ ((Sc.Ld.step (Sc.Ld.step p0 s1) s2).append (Sc.Ld.step p1 s2)), q1, fun c3 M3 v3 d3 s3 r3 p3 ⟨e3, ys, ps, m3, hp, hex, q3⟩ => ?_, fun c3 M3 cls d e s3 r3 p3 ⟨hex, q3⟩ => ?_⟩
  ·subst e3
   cases (show v3 = .non from p3)
   refine ⟨rfl, ?_⟩
   have e3 : c3.ρ[M1.length]? = some x := Zha s3.pre get
   obtain ⟨o, h1, h2, h3, r4, s4⟩ := r3.freeze e3 m3
   obtain ⟨dx', vs', rfl, h5, h6, h7⟩ := h2
   obtain ⟨r5, s5, e5⟩ := r1.cut r4 (s2.trans (s3.trans s4)) hex
   refine po ⟨upd c3.F x (.ins (ga S.K k.str) dx' (fz k vs')), c3.ρ.take M1.length, c3.H⟩ _ (.ref x) (.v (.obj k ps)) (s01.trans s5) r5 ?_ q3
   refine ⟨x, dx', vs', rfl, upd_same, hk, ?_, RpL.same (Za8 h3) _ _ (Zck h7 hp)⟩
   rw [Zfe hp] at h6
   simpa using h6
  ·obtain ⟨r5, s5, e5⟩ := r1.cut r3 (s2.trans s3) hex
   exact px ⟨c3.F, c3.ρ.take M1.length, c3.H⟩ _ cls d e (ok1.st.trans s5) r5 p3 q3
end
theorem z_T {c : Bool} {A B : Prop} (h : c = true) (k : A) : if c = true then A else B := by rw [if_pos h]; exact k
theorem z_F {c : Bool} {A B : Prop} (h : c = false) (k : B) : if c = true then A else B := by rw [h]; exact k
theorem z_nT {c : Bool} {A B : Prop} (h : c = true) (k : B) : if (!c) = true then A else B := by rw [h]; exact k
theorem z_nF {c : Bool} {A B : Prop} (h : c = false) (k : A) : if (!c) = true then A else B := by rw [h]; exact k
theorem z_eq {α : Type} [DecidableEq α] {a : α} {A B : Prop} (k : A) : if decide (a = a) = true then A else B := by rw [decide_eq_true rfl]; exact k
theorem Z7u {α : Type} [DecidableEq α] {a : α} {A B : Prop} (k : B) : if (!decide (a = a)) = true then A else B := by rw [decide_eq_true rfl]; exact k
section
variable {t u : DS} {a b c o : DE} {tt tu : DT} {r : DA} {E : Zfi} {ds : DSt} {M : Mem} {Q : DQ} {QB : Bool → Mem → Prop} {QA : List D → Mem → Prop} {g : DG} {i : Nat} {d : D} {x : PV}
theorem k_nf {A B : Prop} (h : A) : if (!false) = true then A else B := h
instance {A B : Prop} : Wg (if (!false) = true then A else B) (A) := ⟨k_nf⟩
theorem k_nt {A B : Prop} (h : B) : if (!true) = true then A else B := h
instance {A B : Prop} : Wg (if (!true) = true then A else B) (B) := ⟨k_nt⟩
theorem k_sz {α : Type} {z : List α} {p : Prop} (h1 : z.length ≤ sizeLine) (h : p) : z.length ≤ sizeLine ∧ p := ⟨h1, h⟩
theorem k_pu {ys : List D} {xs : List PV} {p : List PV → Prop} (e : Za2 ys = some xs) (hl : ys.length ≤ sizeLine) (h : p xs) : ∃ xs, Za2 ys = some xs ∧ ys.length ≤ sizeLine ∧ p xs := ⟨xs, e, hl, h⟩
theorem Ycz (h : t { E with nx := u E } ds M) : dSeq t u E ds M := ⟨_, h, fun _ _ q => q⟩
instance : Wg (dSeq t u E ds M) (t { E with nx := u E } ds M) := ⟨Ycz⟩
theorem Zvt (N : DSt → Mem → Prop) (h : t { E with nx := N } ds M) (k : ∀ ds' M', N ds' M' → u E ds' M') : dCut t u E ds M := ⟨N, h, k⟩
theorem Zq9 (h : t { E with nx := u E } ds M) : dCut t u E ds M := ⟨_, h, fun _ _ q => q⟩
theorem Ydg (h : a ds M fun x M1 => g x ds M1 E.nx) : dAsg a g E ds M := h
instance : Wg (dAsg a g E ds M) (a ds M fun x M1 => g x ds M1 E.nx) := ⟨Ydg⟩
theorem Yc0 (h : a ds M E.rt) : dRet a E ds M := h
instance : Wg (dRet a E ds M) (a ds M E.rt) := ⟨Yc0⟩
theorem k_drop (h : a ds M fun _ M1 => E.nx ds M1) : Zf4 a E ds M := h
instance : Wg (Zf4 a E ds M) (a ds M fun _ M1 => E.nx ds M1) := ⟨k_drop⟩
theorem Z66 (h : E.nx ds M) : Zaf E ds M := h
instance : Wg (Zaf E ds M) (E.nx ds M) := ⟨Z66⟩
theorem Ydc (h : tt ds M fun k M1 => if k = true then t E ds M1 else u E ds M1) : dIfS tt t u E ds M := h
instance : Wg (dIfS tt t u E ds M) (tt ds M fun k M1 => if k = true then t E ds M1 else u E ds M1) := ⟨Ydc⟩
theorem Ztt (e : ds[i]? = some (some d)) (h : Q d M) : dVar i ds M Q := ⟨d, e, h⟩
theorem k_c (h : Q (.v x) M) : dC x ds M Q := h
instance : Wg (dC x ds M Q) (Q (.v x) M) := ⟨k_c⟩
theorem k_op {rr : DR2} (h : a ds M fun x M1 => b ds M1 fun y M2 => rr x y M2 Q) : dOp rr a b ds M Q := h
instance {rr : DR2} : Wg (dOp rr a b ds M Q) (a ds M fun x M1 => b ds M1 fun y M2 => rr x y M2 Q) := ⟨k_op⟩
theorem k_un {rr : D → Mem → DQ → Prop} (h : a ds M fun x M1 => rr x M1 Q) : dUn rr a ds M Q := h
instance {rr : D → Mem → DQ → Prop} : Wg (dUn rr a ds M Q) (a ds M fun x M1 => rr x M1 Q) := ⟨k_un⟩
theorem Zyq (h : QA [] M) : dNil ds M QA := h
instance : Wg (dNil ds M QA) (QA [] M) := ⟨Zyq⟩
theorem Z7e (h : a ds M fun x M1 => r ds M1 fun xs M2 => QA (x :: xs) M2) : Zaa a r ds M QA := h
instance : Wg (Zaa a r ds M QA) (a ds M fun x M1 => r ds M1 fun xs M2 => QA (x :: xs) M2) := ⟨Z7e⟩
theorem k_cb {rr : DR} (h : r ds M fun xs M1 => rr xs M1 Q) : dCB rr r ds M Q := h
instance {rr : DR} : Wg (dCB rr r ds M Q) (r ds M fun xs M1 => rr xs M1 Q) := ⟨k_cb⟩
theorem k_bm {ty : D → Mem → Prop} {rr : DM} (h : o ds M fun x M1 => ty x M1 ∧ r ds M1 fun xs M2 => rr x xs M2 Q) : dBm ty rr o r ds M Q := h
instance {ty : D → Mem → Prop} {rr : DM} : Wg (dBm ty rr o r ds M Q) (o ds M fun x M1 => ty x M1 ∧ r ds M1 fun xs M2 => rr x xs M2 Q) := ⟨k_bm⟩
theorem Yco {z : List Nat} {p : Prop} (h : p) : tyS (vS z) M ∧ p := ⟨⟨z, rfl⟩, h⟩
instance {z : List Nat} {p : Prop} : Wg (tyS (vS z) M ∧ p) (p) := ⟨Yco⟩
theorem Zvr {ys : List D} {p : Prop} (e : lsOf M d = some ys) (h : p) : tyL d M ∧ p := ⟨⟨ys, e⟩, h⟩
theorem Z62 (h : a ds M fun x M1 => ∃ k, x = vB k ∧ QB k M1) : Zae a ds M QB := h
instance : Wg (Zae a ds M QB) (a ds M fun x M1 => ∃ k, x = vB k ∧ QB k M1) := ⟨Z62⟩
theorem k_bl {b : Bool} {QP : Bool → Prop} (h : QP b) : ∃ k, vB b = vB k ∧ QP k := ⟨b, rfl, h⟩
instance {b : Bool} {QP : Bool → Prop} : Wg (∃ k, vB b = vB k ∧ QP k) (QP b) := ⟨k_bl⟩
theorem k_i {j : Int} {QP : Int → Prop} (h : QP j) : ∃ k, vI j = vI k ∧ QP k := ⟨j, rfl, h⟩
instance {j : Int} {QP : Int → Prop} : Wg (∃ k, vI j = vI k ∧ QP k) (QP j) := ⟨k_i⟩
theorem k_not (h : tt ds M fun b M1 => QB (!b) M1) : dNot tt ds M QB := h
instance : Wg (dNot tt ds M QB) (tt ds M fun b M1 => QB (!b) M1) := ⟨k_not⟩
theorem Ydh (h : tt ds M fun b M1 => if b = true then tu ds M1 QB else QB false M1) : dAnd tt tu ds M QB := h
instance : Wg (dAnd tt tu ds M QB) (tt ds M fun b M1 => if b = true then tu ds M1 QB else QB false M1) := ⟨Ydh⟩
theorem k_or (h : tt ds M fun b M1 => if b = true then QB true M1 else tu ds M1 QB) : dOr tt tu ds M QB := h
instance : Wg (dOr tt tu ds M QB) (tt ds M fun b M1 => if b = true then QB true M1 else tu ds M1 QB) := ⟨k_or⟩
theorem Z7i (h : a ds M fun x M1 => ∃ k, x = vB k ∧ if k = true then b ds M1 Q else Q (vB false) M1) : Zru a b ds M Q := h
instance : Wg (Zru a b ds M Q) (a ds M fun x M1 => ∃ k, x = vB k ∧ if k = true then b ds M1 Q else Q (vB false) M1) := ⟨Z7i⟩
theorem Yf2 (h : a ds M fun x M1 => ∃ k, x = vB k ∧ if k = true then Q (vB true) M1 else b ds M1 Q) : dOrV a b ds M Q := h
theorem Yc1 (h : a ds M fun x M1 => ∃ k, x = vB k ∧ Q (vB (!k)) M1) : Yd7 a ds M Q := h
theorem k_if (h : tt ds M fun k M1 => if k = true then a ds M1 Q else b ds M1 Q) : dIf tt a b ds M Q := h
instance : Wg (dIf tt a b ds M Q) (tt ds M fun k M1 => if k = true then a ds M1 Q else b ds M1 Q) := ⟨k_if⟩
theorem Zo7 {QS : DSt → Mem → Prop} (h : QS (ds.set i (some d)) M) : hName i d ds M QS := h
instance {QS : DSt → Mem → Prop} : Wg (hName i d ds M QS) (QS (ds.set i (some d)) M) := ⟨Zo7⟩
theorem Zka {n : Nat} {gs : DGs} {xs : List PV} {QS : DSt → Mem → Prop} (hl : xs.length = n) (h : gs (xs.map D.v) ds M QS) : hTup n gs (vT xs) ds M QS := ⟨xs, rfl, hl, h⟩
theorem Zff {gs : DGs} {xs : List D} {QS : DSt → Mem → Prop} (h : g d ds M fun ds' M' => gs xs ds' M' QS) : Zjp g gs (d :: xs) ds M QS := ⟨d, xs, rfl, h⟩
theorem Ztv {QS : DSt → Mem → Prop} (h : QS ds M) : hNil [] ds M QS := ⟨rfl, h⟩
theorem Zxo {QO : Option Int → Mem → Prop} (h : QO none M) : Zci ds M QO := h
instance {QO : Option Int → Mem → Prop} : Wg (Zci ds M QO) (QO none M) := ⟨Zxo⟩
theorem Z65 {QO : Option Int → Mem → Prop} (h : a ds M fun x M1 => ∃ i, x = vI i ∧ QO (some i) M1) : Zej a ds M QO := h
instance {QO : Option Int → Mem → Prop} : Wg (Zej a ds M QO) (a ds M fun x M1 => ∃ i, x = vI i ∧ QO (some i) M1) := ⟨Z65⟩
theorem k_sl {rr : D → Option Int → Option Int → Mem → DQ → Prop} {l h : DO} (q : a ds M fun x M1 => l ds M1 fun lo M2 => h ds M2 fun hi M3 => rr x lo hi M3 Q) : dSl rr a l h ds M Q := q
instance {rr : D → Option Int → Option Int → Mem → DQ → Prop} {l h : DO} : Wg (dSl rr a l h ds M Q) (a ds M fun x M1 => l ds M1 fun lo M2 => h ds M2 fun hi M3 => rr x lo hi M3 Q) := ⟨k_sl⟩
theorem Ycq (h : r ds M fun ys M1 => ∃ xs, Za2 ys = some xs ∧ ys.length ≤ sizeLine ∧ Q (vT xs) M1) : dTup r ds M Q := h
instance : Wg (dTup r ds M Q) (r ds M fun ys M1 => ∃ xs, Za2 ys = some xs ∧ ys.length ≤ sizeLine ∧ Q (vT xs) M1) := ⟨Ycq⟩
theorem Yc4 (h : r ds M fun ys M1 => ∃ xs, Za2 ys = some xs ∧ ys.length ≤ sizeLine ∧ Q (vL xs) M1) : dLst r ds M Q := h
instance : Wg (dLst r ds M Q) (r ds M fun ys M1 => ∃ xs, Za2 ys = some xs ∧ ys.length ≤ sizeLine ∧ Q (vL xs) M1) := ⟨Yc4⟩
theorem Z69 (h : r ds M fun ys M1 => ys.length ≤ sizeLine ∧ Q (.cell M1.length) (M1 ++ [some (.lst ys)])) : Zrr r ds M Q := h
instance : Wg (Zrr r ds M Q) (r ds M fun ys M1 => ys.length ≤ sizeLine ∧ Q (.cell M1.length) (M1 ++ [some (.lst ys)])) := ⟨Z69⟩
theorem Z18 {rr rr' : DR2} (h : a ds M fun x M1 => b ds M1 fun y M2 => rr x y M2 fun z M3 => ∃ k, z = vB k ∧ if k = true then c ds M3 fun u M4 => rr' y u M4 Q else Q (vB false) M3) : Znh rr rr' a b c ds M Q := h
instance {rr rr' : DR2} : Wg (Znh rr rr' a b c ds M Q) (a ds M fun x M1 => b ds M1 fun y M2 => rr x y M2 fun z M3 => ∃ k, z = vB k ∧ if k = true then c ds M3 fun u M4 => rr' y u M4 Q else Q (vB false) M3) := ⟨Z18⟩
theorem Z7f {gg : DSp} {X : DX} (h : r ds M fun xs M1 => gg xs M1 Q X) : Zau gg X r ds M Q := h
instance {gg : DSp} {X : DX} : Wg (Zau gg X r ds M Q) (r ds M fun xs M1 => gg xs M1 Q X) := ⟨Z7f⟩
theorem k_meth {gg : Cn → Option DSp} {dv : List PV} {X : DX} (h : o ds M fun x M1 => ∃ k ys sp, obOf M1 x = some (k, ys) ∧ gg k = some sp ∧ r ds M1 fun xs M2 => sp (x :: (xs ++ dv.map D.v)) M2 Q X) : Zc4 gg dv X o r ds M Q := h
instance {gg : Cn → Option DSp} {dv : List PV} {X : DX} : Wg (Zc4 gg dv X o r ds M Q) (o ds M fun x M1 => ∃ k ys sp, obOf M1 x = some (k, ys) ∧ gg k = some sp ∧ r ds M1 fun xs M2 => sp (x :: (xs ++ dv.map D.v)) M2 Q X) := ⟨k_meth⟩
theorem Ycs (h : a ds M fun x M1 => ∃ k, truD M1 x = some k ∧ (∀ z, x = vS z → z.length ≤ sizeLine) ∧ QB k M1) : dTru a ds M QB := h
instance : Wg (dTru a ds M QB) (a ds M fun x M1 => ∃ k, truD M1 x = some k ∧ (∀ z, x = vS z → z.length ≤ sizeLine) ∧ QB k M1) := ⟨Ycs⟩
theorem Z61 {b : Bool} {p : Bool → Prop} (h : p b) : ∃ k, truD M (vB b) = some k ∧ (∀ z, vB b = vS z → z.length ≤ sizeLine) ∧ p k := ⟨b, rfl, (fun _ e => by cases e), h⟩
instance {b : Bool} {p : Bool → Prop} : Wg (∃ k, truD M (vB b) = some k ∧ (∀ z, vB b = vS z → z.length ≤ sizeLine) ∧ p k) (p b) := ⟨Z61⟩
theorem Z60 {xs : List PV} {p : Bool → Prop} (h : p (!xs.isEmpty)) : ∃ k, truD M (vL xs) = some k ∧ (∀ z, vL xs = vS z → z.length ≤ sizeLine) ∧ p k := ⟨_, rfl, (fun _ e => by cases e), h⟩
instance {xs : List PV} {p : Bool → Prop} : Wg (∃ k, truD M (vL xs) = some k ∧ (∀ z, vL xs = vS z → z.length ≤ sizeLine) ∧ p k) (p (!xs.isEmpty)) := ⟨Z60⟩
theorem Ydf {f : Fd} (h : a ds M fun x M1 => ∃ k ys y, obOf M1 x = some (k, ys) ∧ ys[k.ix f]? = some y ∧ Q y M1) : dFld a f ds M Q := h
instance {f : Fd} : Wg (dFld a f ds M Q) (a ds M fun x M1 => ∃ k ys y, obOf M1 x = some (k, ys) ∧ ys[k.ix f]? = some y ∧ Q y M1) := ⟨Ydf⟩
theorem Ycw {f : Fd} (h : a ds M fun y M1 => o ds M1 fun x M2 => ∃ i k ys, x = .cell i ∧ M2[i]? = some (some (.obj k ys)) ∧ k.ix f ≤ ys.length ∧ k.ix f < k.flds.length ∧ E.nx ds (M2.set i (some (.obj k (setF ys (k.ix f) y))))) : dStF o a f E ds M := h
instance {f : Fd} : Wg (dStF o a f E ds M) (a ds M fun y M1 => o ds M1 fun x M2 => ∃ i k ys, x = .cell i ∧ M2[i]? = some (some (.obj k ys)) ∧ k.ix f ≤ ys.length ∧ k.ix f < k.flds.length ∧ E.nx ds (M2.set i (some (.obj k (setF ys (k.ix f) y))))) := ⟨Ycw⟩
theorem Ydd (h : a ds M fun x M1 => ∃ y M2, frz M1 x = some (y, M2) ∧ Q (.v y) M2) : dFrz a ds M Q := h
instance : Wg (dFrz a ds M Q) (a ds M fun x M1 => ∃ y M2, frz M1 x = some (y, M2) ∧ Q (.v y) M2) := ⟨Ydd⟩
theorem Zxr (x : PV) {p : PV → Mem → Prop} (h : p x M) : ∃ y M2, frz M (.v x) = some (y, M2) ∧ p y M2 := ⟨x, M, rfl, h⟩
theorem k_lc {it : DI} {vs : List Nat} {e : DE} (h : it ds M fun xs M1 => Zec g tt e (Zb6 ds vs) (fun acc M2 => Q (vL acc) M2) xs [] M1) : dLc it g tt e vs ds M Q := h
instance {it : DI} {vs : List Nat} {e : DE} : Wg (dLc it g tt e vs ds M Q) (it ds M fun xs M1 => Zec g tt e (Zb6 ds vs) (fun acc M2 => Q (vL acc) M2) xs [] M1) := ⟨k_lc⟩
theorem Z1x (h : QB true M) : dYes ds M QB := h
instance : Wg (dYes ds M QB) (QB true M) := ⟨Z1x⟩
theorem Yde {it : DI} (h : it ds M fun xs M1 => Zgk g t E xs ds M1) : dFor it g t E ds M := h
instance {it : DI} : Wg (dFor it g t E ds M) (it ds M fun xs M1 => Zgk g t E xs ds M1) := ⟨Yde⟩
theorem Yc6 {R : List D → Mem → Prop} (h : a ds M fun x M1 => ∃ z, x = vS z ∧ R (z.map fun c => D.v (.str [c])) M1) : jStr a ds M R := h
theorem Z7d {R : List D → Mem → Prop} (h : a ds M fun x M1 => ∃ xs, x = vL xs ∧ R (xs.map D.v) M1) : jLst a ds M R := h
instance {R : List D → Mem → Prop} : Wg (jLst a ds M R) (a ds M fun x M1 => ∃ xs, x = vL xs ∧ R (xs.map D.v) M1) := ⟨Z7d⟩
theorem Z7c {R : List D → Mem → Prop} (h : a ds M fun x M1 => ∃ xs, x = vT xs ∧ R (xs.map D.v) M1) : jTup a ds M R := h
instance {R : List D → Mem → Prop} : Wg (jTup a ds M R) (a ds M fun x M1 => ∃ xs, x = vT xs ∧ R (xs.map D.v) M1) := ⟨Z7c⟩
theorem k_s {z : List Nat} {QP : List Nat → Prop} (h : QP z) : ∃ k, vS z = vS k ∧ QP k := ⟨z, rfl, h⟩
theorem k_l {z : List PV} {QP : List PV → Prop} (h : QP z) : ∃ k, vL z = vL k ∧ QP k := ⟨z, rfl, h⟩
instance {z : List PV} {QP : List PV → Prop} : Wg (∃ k, vL z = vL k ∧ QP k) (QP z) := ⟨k_l⟩
theorem k_tu {z : List PV} {QP : List PV → Prop} (h : QP z) : ∃ k, vT z = vT k ∧ QP k := ⟨z, rfl, h⟩
instance {z : List PV} {QP : List PV → Prop} : Wg (∃ k, vT z = vT k ∧ QP k) (QP z) := ⟨k_tu⟩
theorem Z63 {R : List D → Mem → Prop} (h : r ds M fun xs M1 => ∃ j : Int, xs = [vI j] ∧ -(2 ^ 62) ≤ j ∧ j < 2 ^ 62 ∧ R ((List.range j.toNat).map fun (k : Nat) => vI k) M1) : Zjn r ds M R := h
instance {R : List D → Mem → Prop} : Wg (Zjn r ds M R) (r ds M fun xs M1 => ∃ j : Int, xs = [vI j] ∧ -(2 ^ 62) ≤ j ∧ j < 2 ^ 62 ∧ R ((List.range j.toNat).map fun (k : Nat) => vI k) M1) := ⟨Z63⟩
theorem Z1z {k : Cn} {X : DX} (h : r ds M fun xs M1 => ∃ ps, Za2 xs = some ps ∧ ps.length = k.flds.length ∧ X ⟨k, ps⟩ M1) : Zdc k X r E ds M := h
instance {k : Cn} {X : DX} : Wg (Zdc k X r E ds M) (r ds M fun xs M1 => ∃ ps, Za2 xs = some ps ∧ ps.length = k.flds.length ∧ X ⟨k, ps⟩ M1) := ⟨Z1z⟩
theorem Yfz {tb : List (Cn × Bool)} {bb : (DSt → DX) → DS} {s : Addr → DErr → DS} {Wo : DSt → DX} (h : bb (wTry tb i s Wo E) E ds M) : dTry tb i bb s Wo E ds M := h
theorem Z19 {gg : Cn → Option DSp} {X : DX} (h : o ds M fun x M1 => (∃ k ys, obOf M1 x = some (k, ys)) ∧ r ds M1 fun xs M2 => ∃ k ys sp, obOf M2 x = some (k, ys) ∧ gg k = some sp ∧ sp (x :: xs) M2 Q X) : Zpd gg X o r ds M Q := h
instance {gg : Cn → Option DSp} {X : DX} : Wg (Zpd gg X o r ds M Q) (o ds M fun x M1 => (∃ k ys, obOf M1 x = some (k, ys)) ∧ r ds M1 fun xs M2 => ∃ k ys sp, obOf M2 x = some (k, ys) ∧ gg k = some sp ∧ sp (x :: xs) M2 Q X) := ⟨Z19⟩
theorem Z46 {gg : Cn → Option DSp} {W : DSt → DX} (h : o ds M fun x M1 => (∃ k ys, obOf M1 x = some (k, ys)) ∧ r ds M1 fun xs M2 => ∃ k ys sp, obOf M2 x = some (k, ys) ∧ gg k = some sp ∧ sp (x :: xs) M2 Q (W ds)) : Z99 gg W o r ds M Q := h
theorem k_xf {z : Addr} {e : DErr} {k : Cn} {f : Fd} (h : a ds M fun x M1 => x = .exn z ∧ e.c = k ∧ k.ix f < k.flds.length ∧ ∃ y, e.xs[k.ix f]? = some y ∧ Q (.v y) M1) : dXf z e k f a ds M Q := h
theorem k_fs {es : List DE} (h : dJs es [] ds M fun z M1 => Q (vS z) M1) : dFs es ds M Q := h
theorem k_js {es : List DE} {acc : List Nat} {QS : List Nat → Mem → Prop} (h : a ds M fun x M1 => ∃ z, x = vS z ∧ acc.length + z.length ≤ sizeLine ∧ dJs es (acc ++ z) ds M1 QS) : dJs (a :: es) acc ds M QS := h
theorem Yc7 {acc : List Nat} {QS : List Nat → Mem → Prop} (h : QS acc M) : dJs [] acc ds M QS := h
theorem Yga (h : a ds M fun x M1 => (∃ z, x = vS z ∧ z.length ≤ sizeLine ∧ Q (vS z) M1) ∨ ∃ i, x = vI i ∧ i.natAbs.log2 < 1920 ∧ Q (vS (figs i)) M1) : dFmt a ds M Q := h
theorem k_sub {y : D} {QS : DSt → Mem → Prop} (h : o ds M fun x M1 => a ds M1 fun j M2 => ∃ k es n l, x = .cell k ∧ j = vI n ∧ M2[k]? = some (some (.lst es)) ∧ ixN es.length n = some l ∧ QS ds (M2.set k (some (.lst (es.set l y))))) : hSub o a y ds M QS := h
theorem Z42 (h : r ds M fun xs M1 => Zzi xs M1 Q) : Zrs r ds M Q := h
theorem Z4v (h : r ds M fun xs M1 => ∃ z, xs = [vS z] ∧ z.length < 64 ∧ ∀ ys : List Nat, ys.Pairwise (· < ·) → (∀ c, c ∈ ys ↔ c ∈ z) → Q (vL (sgn ys)) M1) : Zro r ds M Q := h
theorem Yf1 (h : a ds M fun x M1 => ∃ z, x = vS z ∧ z.length ≤ sizeLine ∧ Q (vS z.reverse) M1) : dRev a ds M Q := h
theorem Z7j {i j : Int} (h : Q (vI (i + j)) M) : uAdd (vI i) (vI j) M Q := Or.inl ⟨i, j, rfl, rfl, h⟩
instance {i j : Int} : Wg (uAdd (vI i) (vI j) M Q) (Q (vI (i + j)) M) := ⟨Z7j⟩
theorem Ze1 {z y : List Nat} (hl : z.length + y.length ≤ sizeLine) (h : Q (vS (z ++ y)) M) : uAdd (vS z) (vS y) M Q := Or.inr (Or.inl ⟨z, y, rfl, rfl, hl, h⟩)
theorem Zm1 {z y : List PV} (hl : z.length + y.length ≤ sizeLine) (h : Q (vL (z ++ y)) M) : uAdd (vL z) (vL y) M Q := Or.inr (Or.inr ⟨z, y, rfl, rfl, hl, h⟩)
theorem Ycu {i j : Int} (h : Q (vI (i - j)) M) : uSub (vI i) (vI j) M Q := ⟨i, j, rfl, rfl, h⟩
theorem k_lt {i j : Int} (h : Q (vB (decide (i < j))) M) : uLt (vI i) (vI j) M Q := ⟨i, j, rfl, rfl, h⟩
theorem k_le {i j : Int} (h : Q (vB (decide (i ≤ j))) M) : uLe (vI i) (vI j) M Q := ⟨i, j, rfl, rfl, h⟩
instance {i j : Int} : Wg (uLe (vI i) (vI j) M Q) (Q (vB (decide (i ≤ j))) M) := ⟨k_le⟩
theorem k_gt {i j : Int} (h : Q (vB (decide (j < i))) M) : uGt (vI i) (vI j) M Q := ⟨i, j, rfl, rfl, h⟩
instance {i j : Int} : Wg (uGt (vI i) (vI j) M Q) (Q (vB (decide (j < i))) M) := ⟨k_gt⟩
theorem k_ge {i j : Int} (h : Q (vB (decide (j ≤ i))) M) : uGe (vI i) (vI j) M Q := ⟨i, j, rfl, rfl, h⟩
theorem Yc2 {i : Int} (h : Q (vI (-i)) M) : uNeg (vI i) M Q := ⟨i, rfl, h⟩
instance {i : Int} : Wg (uNeg (vI i) M Q) (Q (vI (-i)) M) := ⟨Yc2⟩
theorem k_eq {x y : PV} {k : Bool} (e : eqP x y = some k) (h : Q (vB k) M) : uEq (.v x) (.v y) M Q := ⟨x, y, rfl, rfl, Or.inl ⟨k, e, h⟩⟩
theorem k_ne {x y : PV} {k : Bool} (e : eqP x y = some k) (h : Q (vB (!k)) M) : uNe (.v x) (.v y) M Q := ⟨x, y, rfl, rfl, Or.inl ⟨k, e, h⟩⟩
theorem Yc3 {z : List Nat} (h : Q (vB false) M) : uNe (vS z) (vS z) M Q := ⟨_, _, rfl, rfl, Or.inl ⟨true, by show some (decide (z = z)) = _; rw [decide_eq_true rfl], h⟩⟩
instance {z : List Nat} : Wg (uNe (vS z) (vS z) M Q) (Q (vB false) M) := ⟨Yc3⟩
theorem Ygb {z : List Nat} (h : Q (vB true) M) : uEq (vS z) (vS z) M Q := ⟨_, _, rfl, rfl, Or.inl ⟨true, by show some (decide (z = z)) = _; rw [decide_eq_true rfl], h⟩⟩
theorem Yc8 (h : Q (vB (isNon d)) M) : uIs d (.v .non) M Q := Or.inl ⟨rfl, h⟩
instance : Wg (uIs d (.v .non) M Q) (Q (vB (isNon d)) M) := ⟨Yc8⟩
theorem Zxq (h : Q (vB (!isNon d)) M) : Zor d (.v .non) M Q := Or.inl ⟨rfl, h⟩
instance : Wg (Zor d (.v .non) M Q) (Q (vB (!isNon d)) M) := ⟨Zxq⟩
theorem Yf6 {x y : Bool} (h : Q (vB (decide (x = y))) M) : uIs (vB x) (vB y) M Q := Or.inr ⟨x, y, rfl, rfl, h⟩
theorem Z44 {x y : Bool} (h : Q (vB (!decide (x = y))) M) : Zor (vB x) (vB y) M Q := Or.inr ⟨x, y, rfl, rfl, h⟩
theorem k_in {c : Nat} {z : List Nat} (h : Q (vB (decide (c ∈ z))) M) : uIn (vS [c]) (vS z) M Q := Or.inl ⟨c, z, rfl, rfl, by rw [G5]; exact h⟩
theorem Z9i {c : Nat} {z : List Nat} (h : Q (vB (!decide (c ∈ z))) M) : Zhg (vS [c]) (vS z) M Q := Or.inl ⟨c, z, rfl, rfl, by rw [G9]; exact h⟩
theorem Zrb {z : List Nat} {i : Int} {c : Nat} (hl : z.length ≤ sizeLine) (e : atI z i = some c) (h : Q (vS [c]) M) : uIx (vS z) (vI i) M Q := ⟨i, rfl, Or.inl ⟨z, c, rfl, hl, e, h⟩⟩
theorem Zei {z : List PV} {i : Int} {y : PV} (e : atI z i = some y) (h : Q (.v y) M) : uIx (vL z) (vI i) M Q := ⟨i, rfl, Or.inr (Or.inl ⟨z, y, Or.inl rfl, e, h⟩)⟩
theorem Z16 {z : List PV} {i : Int} {y : PV} (e : atI z i = some y) (h : Q (.v y) M) : uIx (vT z) (vI i) M Q := ⟨i, rfl, Or.inr (Or.inl ⟨z, y, Or.inr rfl, e, h⟩)⟩
theorem Zk7 {k : Nat} {z : List D} {i : Int} {y : D} (m : M[k]? = some (some (.lst z))) (e : atI z i = some y) (h : Q y M) : uIx (.cell k) (vI i) M Q := ⟨i, rfl, Or.inr (Or.inr ⟨k, z, y, rfl, m, e, h⟩)⟩
theorem Z4y {z : List Nat} {lo hi : Option Int} (hl : z.length ≤ sizeLine) (h : Q (vS (cut z lo hi)) M) : uSl (vS z) lo hi M Q := Or.inl ⟨z, rfl, hl, h⟩
theorem Ycy {z : List PV} {lo hi : Option Int} (h : Q (vL (cut z lo hi)) M) : uSl (vL z) lo hi M Q := Or.inr (Or.inl ⟨z, rfl, h⟩)
instance {z : List PV} {lo hi : Option Int} : Wg (uSl (vL z) lo hi M Q) (Q (vL (cut z lo hi)) M) := ⟨Ycy⟩
theorem Yf0 {ns : List Int} {lo hi : Option Int} (h : Q (vL ((cut ns lo hi).map PV.int)) M) : uSl (.v (.scr ns)) lo hi M Q := Or.inr (Or.inr (Or.inl ⟨ns, rfl, h⟩))
theorem Z4x {z : List PV} {lo hi : Option Int} (hn : ¬ (HT.sIx z.length 0 lo = 0 ∧ HT.sIx z.length z.length hi = z.length)) (h : Q (vT (cut z lo hi)) M) : uSlT (vT z) lo hi M Q := ⟨z, rfl, hn, h⟩
theorem Zxp {z : List Nat} (hl : z.length ≤ sizeLine) (h : Q (vI z.length) M) : uLen [vS z] M Q := ⟨_, rfl, Or.inl ⟨z, rfl, hl, h⟩⟩
theorem Z7b {z : List PV} (h : Q (vI z.length) M) : uLen [vL z] M Q := ⟨_, rfl, Or.inr ⟨_, rfl, by rw [Qb]; exact h⟩⟩
instance {z : List PV} : Wg (uLen [vL z] M Q) (Q (vI z.length) M) := ⟨Z7b⟩
theorem Z7a {z : List PV} (h : Q (vI z.length) M) : uLen [vT z] M Q := ⟨_, rfl, Or.inr ⟨_, rfl, by rw [Qb]; exact h⟩⟩
instance {z : List PV} : Wg (uLen [vT z] M Q) (Q (vI z.length) M) := ⟨Z7a⟩
theorem Yc5 {k : Nat} {z : List D} (m : M[k]? = some (some (.lst z))) (h : Q (vI z.length) M) : uLen [.cell k] M Q := ⟨_, rfl, Or.inr ⟨z, by show (match M[k]? with | some (some (Cell.lst ds)) => some ds | _ => none) = _; rw [m], h⟩⟩
theorem Yf7 {i : Int} (h : Q (vI i) M) : uInt [vI i] M Q := Or.inl ⟨i, rfl, h⟩
theorem Yc9 {k : Bool} (h : Q (vI (if k then 1 else 0)) M) : uInt [vB k] M Q := Or.inr ⟨k, rfl, h⟩
theorem Z7g {k : Bool} (h : Q (vB k) M) : Zzk [vB k] M Q := ⟨k, rfl, h⟩
instance {k : Bool} : Wg (Zzk [vB k] M Q) (Q (vB k) M) := ⟨Z7g⟩
theorem Z11 {z : List PV} (h : Q (vL z) M) : Zuz [vL z] M Q := ⟨_, rfl, Or.inr ⟨_, z, rfl, Zby z, h⟩⟩
instance {z : List PV} : Wg (Zuz [vL z] M Q) (Q (vL z) M) := ⟨Z11⟩
theorem Z9l {z : List PV} (h : Q (vL z) M) : Zuz [vT z] M Q := ⟨_, rfl, Or.inr ⟨_, z, rfl, Zby z, h⟩⟩
theorem Z41 {z : List Nat} (hl : z.length ≤ sizeLine) (h : Q (.cell M.length) (M ++ [some (.lst ((sgn z).map D.v))])) : Zww [vS z] M Q := ⟨_, rfl, Or.inl ⟨z, rfl, hl, h⟩⟩
theorem Z4w {z : List Nat} (hl : z.length < 64) (h : Q (vL (sgn (srt z))) M) : uSrt [vS z] M Q := ⟨z, rfl, hl, h⟩
theorem Zm0 {y : List Nat} {zs : List (List Nat)} {xs : List PV} (e : xs = zs.map PV.str) (hl : (zs.map List.length).sum + zs.length * y.length ≤ 16777216) (h : Q (vS (glue y zs)) M) : Zdn (vS y) [vL xs] M Q := by
 subst e
 exact ⟨y, _, zs, rfl, rfl, rfl, hl, h⟩
theorem Zvs {y : List Nat} {zs : List (List Nat)} {xs : List PV} (e : xs = zs.map PV.str) (hl : (zs.map List.length).sum + zs.length * y.length ≤ 16777216) (h : Q (vS (glue y zs)) M) : Zdn (vS y) [vT xs] M Q := by
 subst e
 exact ⟨y, _, zs, rfl, rfl, rfl, hl, h⟩
theorem Zjm {z : List Nat} (hl : z.length ≤ 1000000) (h : Q (vS z) M) : Zdn (vS []) [vL (sgn z)] M Q := by
 refine Zm0 (zs := z.map fun c => [c]) (by rw [Qq]; rfl) ?_ ?_
 ·have : ((z.map fun c => [c]).map List.length).sum = z.length := by
   clear hl h
   rw [Qq]
   induction z with
   | nil => rfl
   | cons a t ih =>
    rw [Q3, Hz, ih]
    simp
    omega
  rw [this]
  simp
  omega
 ·rw [Zlh, Z5d]
  exact h
theorem Zjd {ys : List D} : lsOf (M ++ [some (.lst ys)]) (.cell M.length) = some ys := by
 show (match (M ++ [some (Cell.lst ys)])[M.length]? with | some (some (Cell.lst ds)) => some ds | _ => none) = _
 rw [Qi]
theorem Zbe {α : Type} {M : List α} {x y : α} : (M ++ [x]).set M.length y = M ++ [y] := by
 rw [Ti _ _ (Qu _), Nat.sub_self]
 rfl
theorem Ztw {ys : List D} {d : D} (hl : ys.length < sizeLine) (h : Q (.v .non) (M ++ [some (.lst (ys ++ [d]))])) : uApp (.cell M.length) [d] (M ++ [some (.lst ys)]) Q := ⟨_, ys, d, rfl, rfl, Qi .., hl, by rw [Zbe]; exact h⟩
theorem Z8a {ys : List D} : sqOf (M ++ [some (.lst ys)]) (.cell M.length) = some ys := by
 show (match (M ++ [some (Cell.lst ys)])[M.length]? with | some (some (Cell.lst ds)) => some ds | _ => none) = _
 rw [Qi]
theorem Z9m {y : List Nat} {zs : List (List Nat)} {ys : List D} (e : ys = (zs.map PV.str).map D.v) (hl : (zs.map List.length).sum + zs.length * y.length ≤ 16777216) (h : Q (vS (glue y zs)) (M ++ [some (.lst ys)])) : Zdn (vS y) [.cell M.length] (M ++ [some (.lst ys)]) Q := by
 subst e
 exact ⟨y, _, zs, rfl, rfl, Z8a, hl, h⟩
theorem Exit.refl (M : Mem) : Exit M M := ⟨Qu _, fun i x _ e => Or.inl e⟩
theorem Exit.app (M ys : Mem) : Exit M (M ++ ys) := ⟨by simp, fun i x hi e => Or.inl (by rw [Qy hi] at e; exact e)⟩
theorem Exit.set {M : Mem} {i : Nat} {x : Cell} (h : x.low M.length) : Exit M (M.set i (some x)) := ⟨by simp, fun j y hj e => by
 by_cases hij : i = j
 ·subst hij
  rw [Qs hj] at e
  cases e
  exact Or.inr h
 ·rw [Q4 hij] at e
  exact Or.inl e⟩
theorem Exit.trans {M M1 M2 : Mem} (a : Exit M M1) (hl : M1.length = M.length) (b : Exit M1 M2) : Exit M M2 := ⟨Hb a.1 b.1, fun i x hi e => by
 rcases b.2 i x (by omega) e with h | h
 ·exact a.2 i x hi h
 ·exact Or.inr (hl ▸ h)⟩
theorem Zad {x : PV} (h : Q (.v x) M) : Zab M Q (.v x) M := ⟨(fun _ e => by cases e), Exit.refl M, by rw [Q9]; exact h⟩
theorem Z72 {x : PV} {ys : Mem} (h : Q (.v x) M) : Zab M Q (.v x) (M ++ ys) := ⟨(fun _ e => by cases e), Exit.app M ys, by rw [Hv]; exact h; rfl⟩
theorem Yer {x : PV} {i : Nat} {c : Cell} (hc : c.low M.length) (h : Q (.v x) (M.set i (some c))) : Zab M Q (.v x) (M.set i (some c)) := ⟨(fun _ e => by cases e), Exit.set hc, by
 have e : (M.set i (some c)).take M.length = M.set i (some c) := by
  have : (M.set i (some c)).length = M.length := by simp
  rw [← this, Q9]
 rw [e]
 exact h⟩
theorem Zc6 {X : DX} {e : DErr} (h : X e M) : Zbf M X e M := ⟨Exit.refl M, by rw [Q9]; exact h⟩
theorem Zfy {k : Cn} {ps : List PV} {o : Option Cell} (h : Q (.v (.obj k ps)) M) : mkQ k M Q (.v .non) ((M ++ [o]).set M.length (some (.obj k (ps.map D.v)))) := by
 refine ⟨rfl, ps.map D.v, ps, ?_, Zby ps, ?_, ?_⟩
 ·rw [Zbe, Qi]
 ·rw [Zbe, Zbe]
  exact Exit.app M _
 ·rw [Zbe, Zbe, Hv rfl]
  exact h
theorem Z68 {k : Cn} {gg : DSp} {dv : List PV} {X : DX} (h : r ds M fun xs M1 => gg (.cell M1.length :: (xs ++ dv.map D.v)) (M1 ++ [some (.obj k [])]) (mkQ k M1 Q) (Zbf M1 X)) : Zng k gg dv X r ds M Q := h
instance {k : Cn} {gg : DSp} {dv : List PV} {X : DX} : Wg (Zng k gg dv X r ds M Q) (r ds M fun xs M1 => gg (.cell M1.length :: (xs ++ dv.map D.v)) (M1 ++ [some (.obj k [])]) (mkQ k M1 Q) (Zbf M1 X)) := ⟨Z68⟩
theorem Ztm {xs : List D} (h : g d ds M fun ds2 M2 => t { E with nx := Zgk g t E xs, ct := Zgk g t E xs, bk := E.nx } ds2 M2) : Zgk g t E (d :: xs) ds M := h
theorem Za9 {xs : List D} (I : Nat → DSt → Mem → Prop) (h0 : I 0 ds M) (hs : ∀ i x ds M (N : DSt → Mem → Prop), xs[i]? = some x → I i ds M → (∀ ds' M', I (i + 1) ds' M' → N ds' M') → g x ds M fun ds2 M2 => t { E with nx := N, ct := N, bk := E.nx } ds2 M2) (hd : ∀ ds M, I xs.length ds M → E.nx ds M) : Zgk g t E xs ds M := by
 have key : ∀ (ys : List D) (i : Nat) (ds : DSt) (M : Mem), xs.drop i = ys → i ≤ xs.length → I i ds M → Zgk g t E ys ds M := by
  intro ys
  induction ys with
  | nil =>
   intro i ds M e hi hI
   have : xs.length ≤ i := Gp.mp e
   have : i = xs.length := by omega
   subst this
   exact hd ds M hI
  | cons y ys ih =>
   intro i ds M e hi hI
   have hlt : i < xs.length := by
    rcases G4 i xs.length with h | h
    ·exact h
    ·rw [H8 h] at e
     cases e
   rw [Qw hlt] at e
   obtain ⟨e1, e2⟩ := Hy e
   exact hs i y ds M _ (by rw [← e1]; simp [hlt]) hI fun ds' M' hI' => ih (i + 1) ds' M' e2 hlt hI'
 exact key xs 0 ds M rfl (Qr _) h0
theorem Zrw {e : DE} {P : List PV → Mem → Prop} {xs : List D} (I : Nat → List PV → Mem → Prop) (h0 : I 0 [] M) (hs : ∀ i x acc M (N : List PV → Mem → Prop), xs[i]? = some x → I i acc M → (∀ acc' M', I (i + 1) acc' M' → N acc' M') → g x ds M fun ds2 M2 => tt ds2 M2 fun b M3 => if b = true then e ds2 M3 fun y M4 => ∃ z, y = .v z ∧ acc.length < sizeLine ∧ N (acc ++ [z]) M4 else N acc M3) (hd : ∀ acc M, I xs.length acc M → P acc M) : Zec g tt e ds P xs [] M := by
 have key : ∀ (ys : List D) (i : Nat) (acc : List PV) (M : Mem), xs.drop i = ys → i ≤ xs.length → I i acc M → Zec g tt e ds P ys acc M := by
  intro ys
  induction ys with
  | nil =>
   intro i acc M e hi hI
   have : xs.length ≤ i := Gp.mp e
   have : i = xs.length := by omega
   subst this
   exact hd acc M hI
  | cons y ys ih =>
   intro i acc M e hi hI
   have hlt : i < xs.length := by
    rcases G4 i xs.length with h | h
    ·exact h
    ·rw [H8 h] at e
     cases e
   rw [Qw hlt] at e
   obtain ⟨e1, e2⟩ := Hy e
   exact hs i y acc M (fun acc M => Zec g tt _ ds P ys acc M) (by rw [← e1]; simp [hlt]) hI fun acc' M' hI' => ih (i + 1) acc' M' e2 hlt hI'
 exact key xs 0 [] M rfl (Qr _) h0
theorem wkT {inst : Decidable (true = true)} {A B : Prop} (h : A) : @ite Prop (true = true) inst A B := by rw [if_pos rfl]; exact h
theorem wkF {inst : Decidable (false = true)} {A B : Prop} (h : B) : @ite Prop (false = true) inst A B := by rw [if_neg Lr]; exact h
instance {inst : Decidable (true = true)} {A B : Prop} : Wg (@ite Prop (true = true) inst A B) A := ⟨wkT⟩
instance {inst : Decidable (false = true)} {A B : Prop} : Wg (@ite Prop (false = true) inst A B) B := ⟨wkF⟩
class Slot (ds : DSt) (i : Nat) (d : outParam D) : Prop where
 e : ds[i]? = some (some d)
instance {ds : DSt} {d : D} : Slot (some d :: ds) 0 d := ⟨rfl⟩
instance {ds : DSt} {x : Option D} {i : Nat} {d : D} [h : Slot ds i d] : Slot (x :: ds) (i + 1) d := ⟨h.e⟩
instance [h : Slot ds i d] : Wg (dVar i ds M Q) (Q d M) := ⟨Ztt h.e⟩
class SetS (ds : DSt) (i : Nat) (x : Option D) (ds' : outParam DSt) : Prop where
 e : ds.set i x = ds'
instance {ds : DSt} {x y : Option D} : SetS (y :: ds) 0 x (x :: ds) := ⟨rfl⟩
instance {ds ds' : DSt} {x y : Option D} {i : Nat} [h : SetS ds i x ds'] : SetS (y :: ds) (i + 1) x (y :: ds') := ⟨by rw [Hg, h.e]⟩
instance (priority := high) {ds' : DSt} {QS : DSt → Mem → Prop} [h : SetS ds i (some d) ds'] : Wg (hName i d ds M QS) (QS ds' M) := ⟨fun q => Zo7 (by rw [h.e]; exact q)⟩
class Pur (k : Nat) (ys : List D) (xs : outParam (List PV)) : Prop where
 e : Za2 ys = some xs
 l : ys.length ≤ k
instance {k : Nat} : Pur k [] [] := ⟨rfl, Qr _⟩
instance {k : Nat} {ys : List D} {xs : List PV} {x : PV} [h : Pur k ys xs] : Pur (k + 1) (.v x :: ys) (x :: xs) := ⟨by show (Za2 ys).map _ = _; rw [h.e]; rfl, Nat.succ_le_succ h.l⟩
instance {ys : List D} {xs : List PV} {p : List PV → Prop} [h : Pur 40 ys xs] : Wg (∃ xs, Za2 ys = some xs ∧ ys.length ≤ sizeLine ∧ p xs) (p xs) := ⟨k_pu h.e (Hb h.l (by decide))⟩
theorem Z9s {n i : Nat} (h : i < n) : ixN n (i : Int) = some i := by
 unfold ixN
 split
 ·split
  ·simp
  ·omega
 ·omega
theorem atI_nat {α : Type} {z : List α} {i : Nat} {x : α} (h : z[i]? = some x) : atI z (i : Int) = some x := by
 unfold atI
 rw [Z9s (Qa.mp h).1]
 exact h
end
abbrev wds (z : List Nat) : List (List Nat) := TL.spl [32] 0 [] z
theorem Zo9 (s : List Nat) : ∀ ys : List (List Nat), TL.joinL s ys = glue s ys
 | [] => rfl
 | [x] => rfl
 | x :: y :: r => by
  show x ++ (s ++ TL.joinL s (y :: r)) = x ++ (s ++ glue s (y :: r))
  rw [Zo9 s (y :: r)]
theorem Zw2 {s : Nat} {r : List Nat} {ps : List (List Nat)} (h : ps ≠ []) (hp : ∀ p ∈ ps, s ∉ p) : TL.spl (s :: r) 0 [] (glue (s :: r) ps) = ps := by
 rw [← Zo9]
 exact TL.spl_join h hp
theorem Zz4 (b : List Nat) : ∀ (z : List Nat) (k : Nat) (acc : List Nat), TL.spl b k acc z ≠ []
 | [], k, acc => by rw [TL.spl_nil]; simp
 | c :: z, 0, acc => by
  show (if TL.pre b (c :: z) = true then acc :: TL.spl b (b.length - 1) [] z else TL.spl b 0 (acc ++ [c]) z) ≠ []
  split
  ·simp
  ·exact Zz4 b z 0 _
 | c :: z, k + 1, acc => Zz4 b z k acc
mutual
def PV.lay : Nat → PV → Bool
 | _, .non | _, .bl _ | _, .int _ => true
 | _, .str z => z.all (· < 1114112)
 | n + 1, .lst xs => PV.layL n xs
 | n + 1, .tup xs => PV.layL n xs
 | _, _ => false
def PV.layL : Nat → List PV → Bool
 | _, [] => true
 | n, x :: xs => PV.lay n x && PV.layL n xs
end
mutual
theorem PV.Zg8 : ∀ (n : Nat) (x : PV), x.lay n = true → Zg9 x = true ∧ (pdat x).canLay0 = true ∧ (pdat x).depth ≤ n
 | n, .non, _ => ⟨rfl, rfl, Qr _⟩
 | n, .bl _, _ => ⟨rfl, rfl, Qr _⟩
 | n, .int _, _ => ⟨rfl, rfl, Qr _⟩
 | n, .str z, h => ⟨rfl, by
   cases n <;> (
   show ((⟨z⟩ : Array Nat).all (· < 0x110000)) = true
   rw [← Array.all_toList]
   exact h), Qr _⟩
 | n + 1, .lst xs, h => let ⟨a, b, c⟩ := PV.Zq8 n xs h; ⟨a, b, by show PyData.depthAll (Zd6 xs) + 1 ≤ n + 1; omega⟩
 | n + 1, .tup xs, h => let ⟨a, b, c⟩ := PV.Zq8 n xs h; ⟨a, b, by show PyData.depthAll (Zd6 xs) + 1 ≤ n + 1; omega⟩
 | 0, .lst _, h => by cases h
 | 0, .tup _, h => by cases h
 | 0, .obj _ _, h => by cases h
 | n + 1, .obj _ _, h => by cases h
 | 0, .ty _, h => by cases h
 | n + 1, .ty _, h => by cases h
 | 0, .cls _, h => by cases h
 | n + 1, .cls _, h => by cases h
 | 0, .dct _ _, h => by cases h
 | n + 1, .dct _ _, h => by cases h
 | 0, .scr _, h => by cases h
 | n + 1, .scr _, h => by cases h
theorem PV.Zq8 : ∀ (n : Nat) (xs : List PV), PV.layL n xs = true → Zkb xs = true ∧ PyData.canLayAll0 (Zd6 xs) = true ∧ PyData.depthAll (Zd6 xs) ≤ n
 | n, [], _ => ⟨rfl, rfl, Qr _⟩
 | n, x :: xs, h => by
  have h' : (PV.lay n x && PV.layL n xs) = true := by cases n <;> exact h
  obtain ⟨h1, h2⟩ := Ga.mp h'
  obtain ⟨a, b, c⟩ := PV.Zg8 n x h1
  obtain ⟨a', b', c'⟩ := PV.Zq8 n xs h2
  refine ⟨by show (Zg9 x && Zkb xs) = true; rw [a, a']; rfl, by show ((pdat x).canLay0 && PyData.canLayAll0 (Zd6 xs)) = true; rw [b, b']; rfl, ?_⟩
  show max _ _ ≤ n
  omega
end
theorem PV.Zgc {x : PV} (h : x.lay 60 = true) : SeqAt.shaped (pdat x) = true := by
 obtain ⟨_, b, c⟩ := PV.Zg8 60 x h
 unfold SeqAt.shaped
 rw [b, decide_eq_true (show (pdat x).depth ≤ 64 by omega)]
 rfl
theorem PV.Zh9 (n : Nat) : ∀ xs : List PV, PV.layL n xs = true ↔ ∀ x ∈ xs, x.lay n = true
 | [] => by cases n <;> simp [PV.layL]
 | x :: xs => by
  have e : PV.layL n (x :: xs) = (PV.lay n x && PV.layL n xs) := by cases n <;> rfl
  rw [e, Hq, PV.Zh9 n xs]
  simp
def eqvP (a b : PV) : Bool := PyData.eqv (pdat a) (pdat b)
mutual
theorem Zt4 : ∀ (n : Nat) (x : PV), x.lay n = true → PyData.eqv (pdat x) (pdat x) = true
 | n, .non, _ => rfl
 | n, .bl b, _ => by cases b <;> rfl
 | n, .int i, _ => by show (i == i) = true; simp
 | n, .str z, _ => by show (S z == S z) = true; rw [show (S z == S z) = decide (z = z) from SX.S_beq_eq]; simp
 | n + 1, .lst xs, h => Zjt n xs h
 | n + 1, .tup xs, h => Zjt n xs h
 | 0, .lst _, h => by cases h
 | 0, .tup _, h => by cases h
 | 0, .obj _ _, h => by cases h
 | n + 1, .obj _ _, h => by cases h
 | 0, .ty _, h => by cases h
 | n + 1, .ty _, h => by cases h
 | 0, .cls _, h => by cases h
 | n + 1, .cls _, h => by cases h
 | 0, .dct _ _, h => by cases h
 | n + 1, .dct _ _, h => by cases h
 | 0, .scr _, h => by cases h
 | n + 1, .scr _, h => by cases h
theorem Zjt : ∀ (n : Nat) (xs : List PV), PV.layL n xs = true → PyData.eqvAll (Zd6 xs) (Zd6 xs) = true
 | n, [], _ => rfl
 | n, x :: xs, h => by
  have h' : (PV.lay n x && PV.layL n xs) = true := by cases n <;> exact h
  obtain ⟨h1, h2⟩ := Ga.mp h'
  show (PyData.eqv (pdat x) (pdat x) && PyData.eqvAll (Zd6 xs) (Zd6 xs)) = true
  rw [Zt4 n x h1, Zjt n xs h2]
  rfl
end
mutual
def PV.noB : PV → Bool
 | .non | .int _ | .str _ => true
 | .lst xs | .tup xs => PV.noBL xs
 | _ => false
def PV.noBL : List PV → Bool
 | [] => true
 | x :: xs => PV.noB x && PV.noBL xs
end
theorem PV.Zxj : ∀ xs : List PV, PV.noBL xs = true ↔ ∀ x ∈ xs, x.noB = true
 | [] => by simp [PV.noBL]
 | x :: xs => by
  show (PV.noB x && PV.noBL xs) = true ↔ _
  rw [Hq, PV.Zxj xs]
  simp
mutual
theorem Z2o : ∀ (x y : PV), x.noB = true → y.noB = true → PyData.eqv (pdat x) (pdat y) = true → x = y
 | .non, .non, _, _, _ => rfl
 | .int i, .int j, _, _, h => by
  have e : i = j := by simpa using (show (i == j) = true from h)
  rw [e]
 | .str a, .str b, _, _, h => by
  have h' : (S a == S b) = true := h
  rw [show (S a == S b) = decide (a = b) from SX.S_beq_eq] at h'
  rw [of_decide_eq_true h']
 | .lst xs, .lst ys, h1, h2, h => by rw [Zrh xs ys h1 h2 h]
 | .tup xs, .tup ys, h1, h2, h => by rw [Zrh xs ys h1 h2 h]
 | .non, .int _, _, _, h => by cases h
 | .non, .str _, _, _, h => by cases h
 | .non, .lst _, _, _, h => by cases h
 | .non, .tup _, _, _, h => by cases h
 | .int _, .non, _, _, h => by cases h
 | .int _, .str _, _, _, h => by cases h
 | .int _, .lst _, _, _, h => by cases h
 | .int _, .tup _, _, _, h => by cases h
 | .str _, .non, _, _, h => by cases h
 | .str _, .int _, _, _, h => by cases h
 | .str _, .lst _, _, _, h => by cases h
 | .str _, .tup _, _, _, h => by cases h
 | .lst _, .non, _, _, h => by cases h
 | .lst _, .int _, _, _, h => by cases h
 | .lst _, .str _, _, _, h => by cases h
 | .lst _, .tup _, _, _, h => by cases h
 | .tup _, .non, _, _, h => by cases h
 | .tup _, .int _, _, _, h => by cases h
 | .tup _, .str _, _, _, h => by cases h
 | .tup _, .lst _, _, _, h => by cases h
 | .bl _, _, h, _, _ => by cases h
 | .obj _ _, _, h, _, _ => by cases h
 | .ty _, _, h, _, _ => by cases h
 | .cls _, _, h, _, _ => by cases h
 | .dct _ _, _, h, _, _ => by cases h
 | .scr _, _, h, _, _ => by cases h
 | .non, .bl _, _, h, _ => by cases h
 | .non, .obj _ _, _, h, _ => by cases h
 | .non, .ty _, _, h, _ => by cases h
 | .non, .cls _, _, h, _ => by cases h
 | .non, .dct _ _, _, h, _ => by cases h
 | .non, .scr _, _, h, _ => by cases h
 | .int _, .bl _, _, h, _ => by cases h
 | .int _, .obj _ _, _, h, _ => by cases h
 | .int _, .ty _, _, h, _ => by cases h
 | .int _, .cls _, _, h, _ => by cases h
 | .int _, .dct _ _, _, h, _ => by cases h
 | .int _, .scr _, _, h, _ => by cases h
 | .str _, .bl _, _, h, _ => by cases h
 | .str _, .obj _ _, _, h, _ => by cases h
 | .str _, .ty _, _, h, _ => by cases h
 | .str _, .cls _, _, h, _ => by cases h
 | .str _, .dct _ _, _, h, _ => by cases h
 | .str _, .scr _, _, h, _ => by cases h
 | .lst _, .bl _, _, h, _ => by cases h
 | .lst _, .obj _ _, _, h, _ => by cases h
 | .lst _, .ty _, _, h, _ => by cases h
 | .lst _, .cls _, _, h, _ => by cases h
 | .lst _, .dct _ _, _, h, _ => by cases h
 | .lst _, .scr _, _, h, _ => by cases h
 | .tup _, .bl _, _, h, _ => by cases h
 | .tup _, .obj _ _, _, h, _ => by cases h
 | .tup _, .ty _, _, h, _ => by cases h
 | .tup _, .cls _, _, h, _ => by cases h
 | .tup _, .dct _ _, _, h, _ => by cases h
 | .tup _, .scr _, _, h, _ => by cases h
theorem Zrh : ∀ (xs ys : List PV), PV.noBL xs = true → PV.noBL ys = true → PyData.eqvAll (Zd6 xs) (Zd6 ys) = true → xs = ys
 | [], [], _, _, _ => rfl
 | [], _ :: _, _, _, h => by cases h
 | _ :: _, [], _, _, h => by cases h
 | x :: xs, y :: ys, h1, h2, h => by
  obtain ⟨a1, a2⟩ := Ga.mp (show (PV.noB x && PV.noBL xs) = true from h1)
  obtain ⟨b1, b2⟩ := Ga.mp (show (PV.noB y && PV.noBL ys) = true from h2)
  obtain ⟨c1, c2⟩ := Ga.mp (show (PyData.eqv (pdat x) (pdat y) && PyData.eqvAll (Zd6 xs) (Zd6 ys)) = true from h)
  rw [Z2o x y a1 b1 c1, Zrh xs ys a2 b2 c2]
end
theorem Z5g {x y : PV} (hx : x.lay 60 = true) (h1 : x.noB = true) (h2 : y.noB = true) : eqvP x y = true ↔ x = y := ⟨Z2o x y h1 h2, fun h => h ▸ Zt4 60 x hx⟩
section
variable {M : Mem} {Q : DQ}
theorem Z9n {a b : PV} (e : eqP a b = none) (ha : a.lay 60 = true) (hb : b.lay 60 = true) (h : Q (vB (eqvP a b)) M) : uEq (.v a) (.v b) M Q := ⟨a, b, rfl, rfl, Or.inr ⟨e, (PV.Zg8 _ _ ha).1, (PV.Zg8 _ _ hb).1, PV.Zgc ha, PV.Zgc hb, h⟩⟩
theorem Yf3 {a b : PV} (e : eqP a b = none) (ha : a.lay 60 = true) (hb : b.lay 60 = true) (h : Q (vB (!eqvP a b)) M) : uNe (.v a) (.v b) M Q := ⟨a, b, rfl, rfl, Or.inr ⟨e, (PV.Zg8 _ _ ha).1, (PV.Zg8 _ _ hb).1, PV.Zgc ha, PV.Zgc hb, h⟩⟩
def asc3 (zs : List (List Nat)) : Prop := ∀ z ∈ zs, ∀ c ∈ z, c < 1114112
theorem Zh8 {zs : List (List Nat)} (h : asc3 zs) : (PV.lst (zs.map PV.str)).lay 60 = true := by
 show PV.layL 59 _ = true
 rw [PV.Zh9]
 intro x hx
 obtain ⟨z, hz, rfl⟩ := Qz.mp hx
 show z.all (· < 1114112) = true
 rw [Q8]
 exact fun c hc => decide_eq_true (h z hz c hc)
theorem Zxi (zs : List (List Nat)) : (PV.lst (zs.map PV.str)).noB = true := by
 show PV.noBL _ = true
 rw [PV.Zxj]
 intro x hx
 obtain ⟨z, hz, rfl⟩ := Qz.mp hx
 rfl
theorem Z32 {xs ys : List (List Nat)} (h : xs.map PV.str = ys.map PV.str) : xs = ys := by
 induction xs generalizing ys with
 | nil => cases ys with
  | nil => rfl
  | cons y ys => cases h
 | cons x xs ih => cases ys with
  | nil => cases h
  | cons y ys =>
   have h1 := (Hy h).1
   have h2 := (Hy h).2
   cases h1
   rw [ih h2]
theorem Zli {xs ys : List (List Nat)} (hx : asc3 xs) : eqvP (.lst (xs.map PV.str)) (.lst (ys.map PV.str)) = decide (xs = ys) := by
 rw [Q7, Z5g (Zh8 hx) (Zxi _) (Zxi _), decide_eq_true_iff]
 exact ⟨fun h => Z32 (PV.lst.inj h), fun h => by rw [h]⟩
theorem Z17 {xs ys : List PV} {as bs : List (List Nat)} (ex : xs = as.map PV.str) (ey : ys = bs.map PV.str) (ha : asc3 as) (hb : asc3 bs) (h : Q (vB (decide (as = bs))) M) : uEq (vL xs) (vL ys) M Q := by
 subst ex ey
 exact Z9n rfl (Zh8 ha) (Zh8 hb) (by rw [Zli ha]; exact h)
theorem Z67 {xs ys : List PV} {as bs : List (List Nat)} (ex : xs = as.map PV.str) (ey : ys = bs.map PV.str) (ha : asc3 as) (hb : asc3 bs) (h : Q (vB (!decide (as = bs))) M) : uNe (vL xs) (vL ys) M Q := by
 subst ex ey
 exact Yf3 rfl (Zh8 ha) (Zh8 hb) (by rw [Zli ha]; exact h)
end
section
variable {S' : Sc}
def Zwv : DM := fun x xs M Q => ∃ a b : List Nat, x = vS a ∧ xs = [vS b] ∧ b ≠ [] ∧ b.all (· < 256) = true ∧ a.length + 2 ≤ sizeLine ∧ Q (vL ((TL.spl b 0 [] a).map PV.str)) M
theorem Zw3 : SimM S' Zwt Zwv := fun c M x dx vs ds Q Qd ok rx rv0 q po => by
 obtain ⟨a, b, rfl, rfl, h1, h2, h3, q⟩ := q
 obtain ⟨v, rfl, rv⟩ := ld1 rv0
 cases (show x = sv a from rx)
 cases (show v = sv b from rv)
 exact ⟨a, b, rfl, rfl, h1, h2, h3, fun p hp => Zfx ok po hp (A2.of_map (R := Rp S'.K S'.cs c.F) (f := PV.str) (g := sv) (fun _ => rfl) _).rpL q⟩
theorem Z9h {M : Mem} {Q : DQ} {a b : List Nat} (h1 : b ≠ []) (h2 : b.all (· < 256) = true) (h3 : a.length + 2 ≤ sizeLine) (h : Q (vL ((TL.spl b 0 [] a).map PV.str)) M) : Zwv (vS a) [vS b] M Q := ⟨a, b, rfl, rfl, h1, h2, h3, h⟩
def Z73 (b : Bool) : DR2 := fun x y M Q => ∃ a xs, x = .v a ∧ (y = vL xs ∨ y = vT xs) ∧ a.lay 59 = true ∧ PV.layL 59 xs = true ∧ Q (vB (b != xs.any fun z => eqvP z a)) M
theorem Zxl : ∀ {n : Nat} {x : PV}, x.lay n = true → Zg9 x = true ∧ (n ≤ 64 → SeqAt.shaped (pdat x) = true) := fun {n x} h => by
 obtain ⟨a, b, c⟩ := PV.Zg8 n x h
 refine ⟨a, fun hn => ?_⟩
 unfold SeqAt.shaped
 rw [b, decide_eq_true (show (pdat x).depth ≤ 64 by omega)]
 rfl
theorem Zr1 (a : PV) : ∀ xs : List PV, (Zd6 xs).any (fun z => PyData.eqv z (pdat a)) = xs.any fun z => eqvP z a
 | [] => rfl
 | x :: xs => by
  show (PyData.eqv (pdat x) (pdat a) || _) = (eqvP x a || _)
  rw [Zr1 a xs]
  rfl
theorem Z0a (b : Bool) : SimO S' (Zyo S'.K b) (Z73 b) := fun c M x y dx dy Q Qd ok rx ry q po => by
 obtain ⟨a, xs, rfl, hy, h1, h2, q⟩ := q
 have hx := Zxl h1
 have hl : (PV.lst xs).lay 60 = true := h2
 have hl' := Zxl hl
 refine ⟨pdat a, Zd6 xs, Rp.dp ok.rl.same a x hx.1 rx, ?_, hx.2 (by decide), hl'.2 (by decide), po_v ok po (d := vB _) rfl ?_⟩
 ·rcases hy with rfl | rfl
  ·exact Or.inl (Rp.dp ok.rl.same (.lst xs) y hl'.1 ry)
  ·exact Or.inr (Rp.dp ok.rl.same (.tup xs) y hl'.1 ry)
 ·rw [Zr1]
  exact q
def Zuy (kvs : List (List Nat × Int)) : D → Mem → DQ → Prop := fun x M Q => ∃ z, x = vS z ∧ Q (vB (!(lkT kvs z).isSome)) M
def Z74 (kvs : List (List Nat × Int)) : D → Mem → DQ → Prop := fun x M Q => ∃ z i, x = vS z ∧ lkT kvs z = some i ∧ Q (vI i) M
variable {ta tb : TE} {da db : DE}
theorem Zo0 {kvs : List (List Nat × Int)} {p : Addr} (ha : SimE S' ta da) : SimE S' (tOp (Zqt kvs p) ta (tC (.ref p))) (dUn (Zuy kvs) da) := fun c M σ ds Q Qd ok rs q po =>
 ha c M σ ds _ _ ok rs q fun c1 M1 v1 d1 s1 r1 p1 ⟨z, e, q1⟩ => by
  subst e
  cases (show v1 = sv z from p1)
  exact ⟨z, rfl, rfl, po c1 M1 _ (vB _) s1 r1 rfl q1⟩
theorem Zw5 {kvs : List (List Nat × Int)} {p : Addr} (hb : SimE S' tb db) : SimE S' (tOp (rIxT kvs p) (tC (.ref p)) tb) (dUn (Z74 kvs) db) := fun c M σ ds Q Qd ok rs q po =>
 hb c M σ ds _ _ ok rs q fun c1 M1 v1 d1 s1 r1 p1 ⟨z, i, e, h, q1⟩ => by
  subst e
  cases (show v1 = sv z from p1)
  exact ⟨z, i, rfl, rfl, h, po c1 M1 _ (vI i) s1 r1 rfl q1⟩
end
section
variable {M : Mem} {Q : DQ} {a b c d : List Nat} {r : List (List Nat)}
theorem Z43 {xs : List PV} {i : Nat} {y : PV} (e : xs[i]? = some y) (h : Q (.v y) M) : uIx (vL xs) (vI (i : Int)) M Q := Zei (atI_nat e) h
theorem Z15 (h : Q (vS a) M) : uIx (vL (List.map PV.str (a :: r))) (.v (.int 0)) M Q := Z43 (i := 0) rfl h
theorem Z14 (h : Q (vS b) M) : uIx (vL (List.map PV.str (a :: b :: r))) (.v (.int 1)) M Q := Z43 (i := 1) rfl h
theorem Z13 (h : Q (vS c) M) : uIx (vL (List.map PV.str (a :: b :: c :: r))) (.v (.int 2)) M Q := Z43 (i := 2) rfl h
theorem Z12 (h : Q (vS d) M) : uIx (vL (List.map PV.str (a :: b :: c :: d :: r))) (.v (.int 3)) M Q := Z43 (i := 3) rfl h
end
section
variable {α : Type} {xs : List α} {k : Int} {A B : Prop}
theorem Z7w (h : ¬ (xs.length : Int) = k) (b : B) : if decide ((xs.length : Int) = k) = true then A else B := z_F (decide_eq_false h) b
theorem Z7v (h : (xs.length : Int) = k) (b : A) : if decide ((xs.length : Int) = k) = true then A else B := z_T (decide_eq_true h) b
theorem Zzc (h : ¬ (xs.length : Int) = k) (b : A) : if (!decide ((xs.length : Int) = k)) = true then A else B := z_nF (decide_eq_false h) b
theorem Zzb (h : (xs.length : Int) = k) (b : B) : if (!decide ((xs.length : Int) = k)) = true then A else B := z_nT (decide_eq_true h) b
theorem Z7y (h : ¬ k < (xs.length : Int)) (b : B) : if decide (k < (xs.length : Int)) = true then A else B := z_F (decide_eq_false h) b
theorem Z7x (h : k < (xs.length : Int)) (b : A) : if decide (k < (xs.length : Int)) = true then A else B := z_T (decide_eq_true h) b
end
section
variable {S : Sc} {te ta tb tf : TE} {da db de df : DE} {tt tu : TT} {dt du : DT} {tr : TA} {dr : DA} {ts us : TS} {dss dus : DS}
def Znf : DS := fun _ _ _ => False
theorem Zsu : SimS S tNever Znf := fun c M σ ds E Ed ok rs h po => h.elim
def Zy0 (a : DE) (r : DA) : DA := fun ds M Q => a ds M fun x M1 => ∃ ys, sqOf M1 x = some ys ∧ r ds M1 fun zs M2 => Q (ys ++ zs) M2
theorem Zw4 (ha : SimE S ta da) (hr : SimA S tr dr) : SimA S (StX.tStar S.K ta tr) (Zy0 da dr) := fun c M σ ds Q Qd ok rs q po =>
 ha c M σ ds _ _ ok rs q fun c1 M1 v1 d1 s1 r1 p1 ⟨ys, h, q1⟩ => by
  obtain ⟨a, vs, rfl, h1, h2⟩ := Zyf (ok.step s1 r1) p1 h
  exact ⟨a, vs, rfl, h1.symm, hr c1 M1 σ ds _ _ (ok.step s1 r1) (rs.step s1) q1 fun c2 M2 v2 d2 s2 r2 p2 q2 => po c2 M2 _ _ (s1.trans s2) r2 ((Sc.Ld.step h2 s2).append p2) q2⟩
def Zpc (k : Cn) (g : DSp) (Ed : DX) (f : DE) (a : DA) : DE := fun ds M Q => f ds M fun y M0 => y = .v (.cls k) ∧ a ds M0 fun xs M1 => ∃ al ps, xs = al :: ps.map D.v ∧ ps.length ≤ sizeLine ∧
 g [.cell M1.length, al, .v (.tup ps)] (M1 ++ [some (.obj k [])]) (mkQ k M1 Q) (Zbf M1 Ed)
theorem Zsv {k : Cn} {g : DSp} {E : XK} {Ed : DX} (hk : k ∈ S.cs) (px : PoX S S.c0 S.M0 Ed E) (hf : SimE S tf df) (ha : SimA S tr dr) : SimE S (Zhj (ga S.K k.str) (Zly 2 (spD S.K S.cs g)) E tf tr) (Zpc k g Ed df dr) := fun c M σ ds Q Qd ok rs q po =>
 hf c M σ ds _ _ ok rs q fun c0 M0 v0 d0 s0 r0 p0 ⟨e0, q0⟩ => by
  subst e0
  refine ⟨p0, ha c0 M0 σ ds _ _ (ok.step s0 r0) (rs.step s0) q0 fun c1 M1 v1 d1 s1 r1 p1 ⟨al, ps, e, hl, q1⟩ => ?_⟩
  intro x dx hx hdx ne
  subst e
  have ok1 := (ok.step s0 r0).step s1 r1
  cases p1 with
  | @cons _ va _ vr pa pr =>
   have hvl : vr.length ≤ sizeLine := by rw [← pr.len, Qb]; exact hl
   refine ⟨[V.ref x, va], vr, rfl, rfl, hvl, fun p hp => ?_⟩
   obtain ⟨r2, s2⟩ := r1.newo hk hx hdx ne
   obtain ⟨r2', s2'⟩ := r2.lay hp (.tup vr)
   have st := s2.trans s2'
   have get : (c1.ρ ++ [x])[M1.length]? = some x := by rw [← r1.len]; simp
   have pr2 : RpL S.K S.cs c1.F ps vr := Zck pr (Zby ps)
   refine ⟨⟨upd c1.F p (.tup vr), c1.ρ ++ [x], upd (upd (upd c1.H dx (.own x)) x (.ins (ga S.K k.str) dx [])) p (.tup vr)⟩, M1 ++ [some (.obj k [])], [.cell M1.length, al, .v (.tup ps)], _, _, rfl, r2', .cons ⟨x, get, rfl⟩ (.cons (Sc.Vd.step (S := S) pa st) (.cons ⟨p, vr, rfl, .inl (.inl upd_same), RpL.same st.same _ _ pr2⟩ .nil)), q1, fun c3 M3 v3 d3 s3 r3 p3 ⟨e3, ys, zs, m3, hp3, hex, q3⟩ => ?_, fun c3 M3 cls d e s3 r3 p3 ⟨hex, q3⟩ => ?_⟩
   ·subst e3
    cases (show v3 = .non from p3)
    refine ⟨rfl, ?_⟩
    have e3 : c3.ρ[M1.length]? = some x := Zha s3.pre get
    obtain ⟨o, h1, h2, h3, r4, s4⟩ := r3.freeze e3 m3
    obtain ⟨dx', vs', rfl, h5, h6, h7⟩ := h2
    obtain ⟨r5, s5, e5⟩ := r1.cut r4 (st.trans (s3.trans s4)) hex
    refine po ⟨upd c3.F x (.ins (ga S.K k.str) dx' (fz k vs')), c3.ρ.take M1.length, c3.H⟩ _ (.ref x) (.v (.obj k zs)) ((s0.trans s1).trans s5) r5 ?_ q3
    refine ⟨x, dx', vs', rfl, upd_same, hk, ?_, RpL.same (Za8 h3) _ _ (Zck h7 hp3)⟩
    rw [Zfe hp3] at h6
    simpa using h6
   ·obtain ⟨r5, s5, e5⟩ := r1.cut r3 (st.trans s3) hex
    exact px ⟨c3.F, c3.ρ.take M1.length, c3.H⟩ _ cls d e (ok1.st.trans s5) r5 p3 q3
def uNeO (k : Cn) (g : DSp) : DR2 := fun x y M Q => ∃ xs ys, obOf M x = some (k, xs) ∧ obOf M y = some (k, ys) ∧ g [x, y] M (fun d M' => ∃ b, d = vB b ∧ Q (vB (!b)) M') noX
theorem Zz7 {k : Cn} {g : DSp} : SimO S (rNeI (ga S.K k.str) (spD S.K S.cs g) E0) (uNeO k g) := fun c M x y dx dy Q Qd ok rx ry ⟨xs, ys, h1, h2, q⟩ po => by
 obtain ⟨a, dx', vs, rfl, g1, _⟩ := Zkv ok rx h1
 obtain ⟨b, dy', ws, rfl, g2, _⟩ := Zkv ok ry h2
 refine ⟨a, b, dx', dy', _, _, rfl, rfl, g1, g2, c, M, _, _, noX, rfl, ok.rl, .cons rx (.cons ry .nil), q, fun c' M' v d s r p ⟨k', e, q'⟩ => ?_, fun _ _ _ _ _ _ _ _ q => q.elim⟩
 subst e
 cases (show v = .bl k' from p)
 exact ⟨k', rfl, po c' M' _ (vB (!k')) s r rfl q'⟩
def Z70 (C : Addr) (sp : Sp) (E : XK) : List V → Hp → VK → Prop := fun xs H Q => ∃ a dx fs, xs = [.ref a] ∧ H a = some (.ins C dx fs) ∧ sp [.ref a] H (fun v H' => ∃ n : Int, v = .int n ∧ (0 ≤ n ∧ n < 2 ^ 63) ∧ Q (.int n) H') E
def Zzj (k : Cn) (g : DSp) : DR := fun xs M Q => ∃ x ys, xs = [x] ∧ obOf M x = some (k, ys) ∧ g [x] M (fun d M' => ∃ n : Nat, d = vI n ∧ n < 2 ^ 62 ∧ Q (vI n) M') noX
theorem Zz0 {k : Cn} {g : DSp} : SimR S (Z70 (ga S.K k.str) (spD S.K S.cs g) E0) (Zzj k g) := fun c M vs ds Q Qd ok r ⟨x, ys, e, h, q⟩ po => by
 subst e
 cases r with
 | cons r0 t =>
  cases t
  obtain ⟨a, dx', vs, rfl, g1, _⟩ := Zkv ok r0 h
  refine ⟨a, dx', _, rfl, g1, c, M, _, _, noX, rfl, ok.rl, .cons r0 .nil, q, fun c' M' v d s r p ⟨n, e, hn, q'⟩ => ?_, fun _ _ _ _ _ _ _ _ q => q.elim⟩
  subst e
  cases (show v = .int n from p)
  exact ⟨n, rfl, ⟨by omega, by omega⟩, po c' M' _ (vI n) s r rfl q'⟩
def Zx2 (a : DE) : DE := fun ds M Q => a ds M fun x M1 => (∃ ps, x = .v (.tup ps) ∧ Q (vT ps) M1) ∨ ∃ ys ps, lsOf M1 x = some ys ∧ Za2 ys = some ps ∧ Q (vT ps) M1
theorem Zss (ha : SimE S ta da) : SimE S (tThen ta (kTup S.K)) (Zx2 da) := fun c M σ ds Q Qd ok rs q po =>
 ha c M σ ds _ _ ok rs q fun c1 M1 v1 d1 s1 r1 p1 q1 => by
  rcases q1 with ⟨ps, e, q1⟩ | ⟨ys, ps, h, hp, q1⟩
  ·subst e
   have p1' := p1
   obtain ⟨a, vs, rfl, h1, h2⟩ := p1'
   exact Or.inr ⟨a, vs, rfl, Same.seqT r1.same h1, po c1 M1 _ _ s1 r1 p1 q1⟩
  ·obtain ⟨a, vs, rfl, h1, h2⟩ := Zvo (ok.step s1 r1) p1 h
   refine Or.inl ⟨a, vs, rfl, Zgg h1, fun p hp0 => ?_⟩
   obtain ⟨r2, s2⟩ := r1.lay hp0 (.tup vs)
   exact po _ _ _ (vT ps) (s1.trans s2) r2 ⟨p, vs, rfl, .inl (.inl upd_same), RpL.same s2.same _ _ (Zck h2 hp)⟩ q1
end
section
variable {a o f : DE} {r : DA} {ds : DSt} {M : Mem} {Q : DQ} {QA : List D → Mem → Prop}
theorem Ycx (h : a ds M fun x M1 => ∃ ys, sqOf M1 x = some ys ∧ r ds M1 fun zs M2 => QA (ys ++ zs) M2) : Zy0 a r ds M QA := h
instance : Wg (Zy0 a r ds M QA) (a ds M fun x M1 => ∃ ys, sqOf M1 x = some ys ∧ r ds M1 fun zs M2 => QA (ys ++ zs) M2) := ⟨Ycx⟩
theorem Z9j {k : Cn} {g : DSp} {X : DX} (h : f ds M fun y M0 => y = .v (.cls k) ∧ r ds M0 fun xs M1 => ∃ al ps, xs = al :: ps.map D.v ∧ ps.length ≤ sizeLine ∧ g [.cell M1.length, al, .v (.tup ps)] (M1 ++ [some (.obj k [])]) (mkQ k M1 Q) (Zbf M1 X)) : Zpc k g X f r ds M Q := h
instance {k : Cn} {g : DSp} {X : DX} : Wg (Zpc k g X f r ds M Q) (f ds M fun y M0 => y = .v (.cls k) ∧ r ds M0 fun xs M1 => ∃ al ps, xs = al :: ps.map D.v ∧ ps.length ≤ sizeLine ∧ g [.cell M1.length, al, .v (.tup ps)] (M1 ++ [some (.obj k [])]) (mkQ k M1 Q) (Zbf M1 X)) := ⟨Z9j⟩
theorem Z9g (h : a ds M fun x M1 => (∃ ps, x = .v (.tup ps) ∧ Q (vT ps) M1) ∨ ∃ ys ps, lsOf M1 x = some ys ∧ Za2 ys = some ps ∧ Q (vT ps) M1) : Zx2 a ds M Q := h
instance : Wg (Zx2 a ds M Q) (a ds M fun x M1 => (∃ ps, x = .v (.tup ps) ∧ Q (vT ps) M1) ∨ ∃ ys ps, lsOf M1 x = some ys ∧ Za2 ys = some ps ∧ Q (vT ps) M1) := ⟨Z9g⟩
theorem Ycp {ps : List PV} {P : List PV → Prop} {R : Prop} (h : P ps) : (∃ qs, vT ps = .v (.tup qs) ∧ P qs) ∨ R := Or.inl ⟨ps, rfl, h⟩
instance {ps : List PV} {P : List PV → Prop} {R : Prop} : Wg ((∃ qs, vT ps = .v (.tup qs) ∧ P qs) ∨ R) (P ps) := ⟨Ycp⟩
theorem k_cls {k : Cn} {p : Prop} (h : p) : D.v (.cls k) = D.v (.cls k) ∧ p := ⟨rfl, h⟩
instance {k : Cn} {p : Prop} : Wg (D.v (.cls k) = D.v (.cls k) ∧ p) (p) := ⟨k_cls⟩
end
theorem Z4a {E : XK} {C : Addr} {f g : Str} {v u : V} {D : Ends} {σ : L2.St} {H : Hp} (h : ∀ d, H d = none → E (.ref C) (some d) (upd H d (.xd [(g, u), (f, v)]))) : Zem E C (spX2 C f g) (tCons (tC v) (tCons (tC u) tNil)) D σ H := by
 refine ⟨by show 2 ≤ 1000; decide, fun a ha => ⟨a, v, u, rfl, upd_same, fun d hd ne => ⟨rfl, d, _, by rw [upd_ne (Ne.symm ne), upd_same], upd_same, (Zie hd).1, ?_⟩⟩⟩
 obtain ⟨h1, _⟩ := Zie hd
 have e : upd (del (upd (upd (upd (upd H a (exo a C none)) d (exd d [(f, v)])) a (exo a C (some d))) d (exd d [(g, u), (f, v)])) a) d (.xd [(g, u), (f, v)]) = upd H d (.xd [(g, u), (f, v)]) := by
  funext b
  by_cases hb : b = d
  ·rw [hb, upd_same, upd_same]
  ·rw [upd_ne hb, upd_ne hb]
   by_cases hc : b = a
   ·rw [hc, del_same, ha]
   ·rw [del_ne hc, upd_ne hb, upd_ne hc, upd_ne hb, upd_ne hc]
 show E (.ref C) (some d) _
 rw [e]
 exact h d h1
section
variable {S : Sc} {tr : TA} {dr : DA}
def Zrp (k : Cn) (Ed : DX) (a : DA) : DS := fun _ ds M => a ds M fun xs M1 => ∃ x y, xs = [.v x, .v y] ∧ Ed ⟨k, [y, x]⟩ M1
theorem Zoy {k : Cn} {f g : Fd} {E : XK} {Ed : DX} (hf : k.flds = [g, f]) (px : PoX S S.c0 S.M0 Ed E) (ha : SimA S tr dr) : SimS S (Zem E (ga S.K k.str) (spX2 (ga S.K k.str) f.str g.str) tr) (Zrp k Ed dr) := fun c M σ ds D' Dd ok rs q po =>
 ha c M σ ds _ _ ok rs q fun c1 M1 v1 d1 s1 r1 p1 ⟨x, y, e, q1⟩ => by
  subst e
  obtain ⟨v, u, rfl, rv, ru⟩ := ld2 p1
  have key := Z4a (E := E) (C := ga S.K k.str) (f := f.str) (g := g.str) (v := v) (u := u) (D := D') (σ := σ) (H := c1.H) fun d hd => by
   obtain ⟨r2, s2⟩ := r1.lay hd (.xd [(g.str, u), (f.str, v)])
   refine px ⟨upd c1.F d (.xd [(g.str, u), (f.str, v)]), c1.ρ, upd c1.H d (.xd [(g.str, u), (f.str, v)])⟩ M1 _ _ ⟨k, [y, x]⟩ ((ok.step s1 r1).st.trans s2) r2 ⟨rfl, d, [u, v], rfl, ?_, _, _, rfl, Rp.same s2.same _ _ ru, _, _, rfl, Rp.same s2.same _ _ rv, rfl⟩ q1
   show upd c1.F d _ d = _
   rw [upd_same]
   show _ = some (HO.xd ((k.flds.map Fd.str).zip [u, v]))
   rw [hf]
   rfl
  exact key
theorem Z4z {k : Cn} {X : DX} {r : DA} {E : Zfi} {ds : DSt} {M : Mem} (h : r ds M fun xs M1 => ∃ x y, xs = [.v x, .v y] ∧ X ⟨k, [y, x]⟩ M1) : Zrp k X r E ds M := h
instance {k : Cn} {X : DX} {r : DA} {E : Zfi} {ds : DSt} {M : Mem} : Wg (Zrp k X r E ds M) (r ds M fun xs M1 => ∃ x y, xs = [.v x, .v y] ∧ X ⟨k, [y, x]⟩ M1) := ⟨Z4z⟩
def tMk0 (C : Addr) : L2.St → Hp → XK → Prop := fun _ H Q => Q (.ref C) none H
def Zzr (E : XK) (C : Addr) : TS := fun _ σ H => tMk0 C σ H fun cls d H' => E cls d H'
theorem Z4f {X : Cx} {C : Addr} {bmB : List Value} {B newId initId : String} {x : Str} {p pos : Pos} (F : ExcBaseFacts B newId initId bmB) (q : PySem.W.excIn X.K C bmB newId = true) (gC : X.mg x = some (.ref C))
  (kC : PySem.W.keepIn X.K (.ref C) = true) (r : Raises X (.ref C)) (hg : Gl X x) (hdb : (x == ("__debug__" : Str)) = false := by decide) :
  PMk X (.Call (.Name x p) [] [] pos) (tMk0 C) := by
 intro pins s σ H Q I h
 refine wpAny_Call_Name_kw (ld_glob I hg gC ?_ hdb)
 refine PySem.W.callWith_K0 I.kIn kC ?_
 obtain ⟨bm, N, nm, qn, bs, hdct, sn, sub, ab, col, dd, k0, k1, k2, k3, k5, mN, hC, hN, hni, T⟩ := exc_obj I.kIn q
 refine wpAny_call_exc_subT F T hC hN hni (fun h' e hm => ?_) (by show 0 ≤ sizeLine; omega)
 exact mk_of I hm r h (I.hok.gone hm.new)
def Zrq (k : Cn) (Ed : DX) : DS := fun _ _ M => Ed ⟨k, []⟩ M
theorem Zoz {k : Cn} {E : XK} {Ed : DX} (px : PoX S S.c0 S.M0 Ed E) : SimS S (Zzr E (ga S.K k.str)) (Zrq k Ed) := fun c M σ ds D' Dd ok rs q po => px c M _ _ ⟨k, []⟩ ok.st ok.rl ⟨rfl, rfl⟩ q
theorem Z40 {k : Cn} {X : DX} {E : Zfi} {ds : DSt} {M : Mem} (h : X ⟨k, []⟩ M) : Zrq k X E ds M := h
instance {k : Cn} {X : DX} {E : Zfi} {ds : DSt} {M : Mem} : Wg (Zrq k X E ds M) (X ⟨k, []⟩ M) := ⟨Z40⟩
end
def gm1 (c : Cn) (g : DSp) : Cn → Option DSp := fun k => if k = c then some g else none
theorem Z2f {c k : Cn} {g q : DSp} (h : gm1 c g k = some q) : k = c ∧ q = g := by
 unfold gm1 at h
 by_cases e : k = c
 ·rw [if_pos e] at h
  exact ⟨e, (Q0 h).symm⟩
 ·rw [if_neg e] at h
  cases h
theorem gn1 {c : Cn} {g : DSp} {m : Str} (h : (c.flds.all fun f => decide (f.str ≠ m)) = true) : ∀ k, (gm1 c g k).isSome = true → ∀ f ∈ k.flds, f.str ≠ m := fun k q f hf => by
 obtain ⟨z, hz⟩ := Option.isSome_iff_exists.mp q
 obtain ⟨rfl, _⟩ := Z2f hz
 exact of_decide_eq_true (Q8.mp h f hf)
theorem Yf9 {c : Cn} {g : DSp} {M : Mem} {xs : List PV} {p : DSp → Prop} (h : p g) : ∃ k ys sp, obOf M (.v (.obj c xs)) = some (k, ys) ∧ gm1 c g k = some sp ∧ p sp := ⟨c, _, g, rfl, if_pos rfl, h⟩
instance {c : Cn} {g : DSp} {M : Mem} {xs : List PV} {p : DSp → Prop} : Wg (∃ k ys sp, obOf M (.v (.obj c xs)) = some (k, ys) ∧ gm1 c g k = some sp ∧ p sp) (p g) := ⟨Yf9⟩
theorem k_fo {M : Mem} {c : Cn} {xs : List PV} {f : Fd} {y : PV} {p : D → Prop} (e : xs[c.ix f]? = some y) (h : p (.v y)) : ∃ k ys y, obOf M (.v (.obj c xs)) = some (k, ys) ∧ ys[k.ix f]? = some y ∧ p y :=
 ⟨c, _, .v y, rfl, by rw [Qn, e]; rfl, h⟩
theorem Z9o {M : Mem} {Q : DQ} {i : Nat} {ys : List D} {d : D} (m : M[i]? = some (some (.lst ys))) (hl : ys.length < sizeLine) (h : Q (.v .non) (M.set i (some (.lst (ys ++ [d]))))) : uApp (.cell i) [d] M Q := ⟨i, ys, d, rfl, rfl, m, hl, h⟩
theorem Z1l {M : Mem} {i : Nat} {ys : List D} (m : M[i]? = some (some (.lst ys))) : lsOf M (.cell i) = some ys := by
 show (match M[i]? with | some (some (Cell.lst ds)) => some ds | _ => none) = _
 rw [m]
theorem Zrf {M : Mem} {i : Nat} {xs : List PV} (m : M[i]? = some (some (.lst (xs.map D.v)))) : frz M (.cell i) = some (.lst xs, M.set i none) := by
 show (match M[i]? with
  | some (some (.lst ds)) => (Za2 ds).map fun xs => (PV.lst xs, M.set i none)
  | some (some (.obj k ds)) => (Za2 ds).map fun xs => (PV.obj k xs, M.set i none)
  | _ => none) = _
 rw [m]
 show (Za2 (xs.map D.v)).map _ = _
 rw [Zby]
 rfl
section
variable {S : Sc} {te ta tb tf : TE} {da db de df : DE} {tt : TT} {dt : DT} {tr : TA} {dr : DA}
def Zgo (g : DG) (t : DT) (e : DE) (ds0 : DSt) (L : Nat) (Q : Mem → Prop) : List D → Mem → Prop
 | [], M => Q M
 | x :: xs, M => g x ds0 M fun ds2 M2 => t ds2 M2 fun b M3 => if b = true then e ds2 M3 fun y M4 => ∃ acc, M4[L]? = some (some (.lst acc)) ∧ acc.length < sizeLine ∧ Zgo g t e ds0 L Q xs (M4.set L (some (.lst (acc ++ [y])))) else Zgo g t e ds0 L Q xs M3
def dLcC (it : DI) (g : DG) (t : DT) (e : DE) (vs : List Nat) : DE := fun ds M Q => it ds M fun xs M1 => Zgo g t e (Zb6 ds vs) M1.length (fun M2 => Q (.cell M1.length) M2) xs (M1 ++ [some (.lst [])])
theorem Z0l {ti : TI} {di : DI} {g : TG} {dg : DG} {vs : List Nat} (own : GOwn g vs) (hi : SimI S ti di) (hg : SimG S g dg) (ht : SimT S tt dt) (he : SimE S te de) : SimE S (tLc ti g tt te vs) (dLcC di dg dt de vs) := fun c M σ ds Q Qd ok rs q po =>
 hi c M σ ds _ _ ok rs q fun c1 M1 J xs s1 r1 wk q1 => by
  intro P hP
  have ok1 := ok.step s1 r1
  obtain ⟨r2, s2⟩ := r1.newc hP (x := .lst []) (o := .lst []) ⟨[], rfl, .nil⟩
  have rs1 := rs.step s1
  have get0 : (c1.ρ ++ [P])[M1.length]? = some P := by rw [← r1.len]; simp
  refine ⟨fun i m H' => ∃ c2 M2, c2.H = H' ∧ m = xs.length - i ∧ i ≤ xs.length ∧ Step ⟨c1.F, c1.ρ ++ [P], upd c1.H P (.lst [])⟩ (M1 ++ [some (.lst [])]) c2 M2 ∧ Rel S.K S.cs c2 M2 ∧ Zgo dg dt de (Zb6 ds vs) M1.length (fun M2 => Qd (.cell M1.length) M2) (xs.drop i) M2,
   ⟨xs.length, ⟨c1.F, c1.ρ ++ [P], upd c1.H P (.lst [])⟩, _, rfl, rfl, Qr _, Step.refl _ _, r2, q1⟩, ?_⟩
  rintro i m H' ⟨c3, M3, rfl, rfl, hi, s3, r3, q3⟩
  have s03 := s2.trans s3
  obtain ⟨w1, w2⟩ := wk i c3 M3 s03.same s03.pre r3
  by_cases hlt : i < xs.length
  ·obtain ⟨g1, g2⟩ := w2 xs[i] (by simp [hlt])
   rw [Qw hlt] at q3
   refine Or.inr ⟨g1, fun H'' => ∃ c4 M4, c4.H = H'' ∧ Step ⟨c1.F, c1.ρ ++ [P], upd c1.H P (.lst [])⟩ (M1 ++ [some (.lst [])]) c4 M4 ∧ Rel S.K S.cs c4 M4 ∧ Zgo dg dt de (Zb6 ds vs) M1.length (fun M2 => Qd (.cell M1.length) M2) (xs.drop (i + 1)) M4,
    fun H'' ⟨c4, M4, e, s4, r4, h4⟩ => ⟨xs.length - (i + 1), by omega, c4, M4, e, rfl, hlt, s4, r4, h4⟩, fun x H'' hy => own _ _ _ _ ?_⟩
   obtain ⟨c4, rfl, s4, r4, p4⟩ := g2 x H'' hy
   have ok3 := (ok1.step s2 r2).step s3 r3
   have rs4 : S.St c4 (Zb6 ds vs) (wipe σ vs) := Zln (((rs1.step s2).step s3).step s4) vs
   refine hg c4 M3 (wipe σ vs) (Zb6 ds vs) _ _ _ _ (ok3.step s4 r4) rs4 p4 q3 fun c5 M5 σ5 ds5 s5 r5 p5 q5 => ?_
   have ok5 := (ok3.step s4 r4).step s5 r5
   refine ht c5 M5 σ5 ds5 _ _ ok5 p5 q5 fun c6 M6 b s6 r6 q6 => ?_
   have st6 := s3.trans (s4.trans (s5.trans s6))
   cases b with
   | false => exact ⟨c6, M6, rfl, st6, r6, q6⟩
   | true =>
    refine he c6 M6 σ5 ds5 _ _ (ok5.step s6 r6) (p5.step s6) q6 fun c7 M7 v7 d7 s7 r7 p7 ⟨acc, hm, hl, q7⟩ => ?_
    have st7 := st6.trans s7
    have eP : c7.ρ[M1.length]? = some P := Zha st7.pre get0
    obtain ⟨h1, o, h2, ws, rfl, h3⟩ := r7.live _ P _ eP hm
    obtain ⟨r8, s8⟩ := r7.setc eP hm (y := .lst (acc ++ [d7])) (o := .lst (ws ++ [v7])) ⟨_, rfl, h3.append (.cons p7 .nil)⟩
    exact ⟨ws, h2, by rw [← h3.len]; exact hl, ⟨_, _, _⟩, _, rfl, st7.trans s8, r8, q7⟩
  ·have e : xs.length = i := by omega
   rw [← e, Hl] at q3
   exact Or.inl ⟨w1 e, po c3 M3 (.ref P) (.cell M1.length) (s1.trans s03) r3 ⟨P, Zha s3.pre get0, rfl⟩ q3⟩
theorem Yf4 {it : DI} {g : DG} {t : DT} {e : DE} {vs : List Nat} {ds : DSt} {M : Mem} {Q : DQ} (h : it ds M fun xs M1 => Zgo g t e (Zb6 ds vs) M1.length (fun M2 => Q (.cell M1.length) M2) xs (M1 ++ [some (.lst [])])) : dLcC it g t e vs ds M Q := h
instance {it : DI} {g : DG} {t : DT} {e : DE} {vs : List Nat} {ds : DSt} {M : Mem} {Q : DQ} : Wg (dLcC it g t e vs ds M Q) (it ds M fun xs M1 => Zgo g t e (Zb6 ds vs) M1.length (fun M2 => Q (.cell M1.length) M2) xs (M1 ++ [some (.lst [])])) := ⟨Yf4⟩
theorem Z2z {g : DG} {t : DT} {e : DE} {ds : DSt} {L : Nat} {P : Mem → Prop} {xs : List D} {M : Mem} (I : Nat → Mem → Prop) (h0 : I 0 M) (hs : ∀ i x M (N : Mem → Prop), xs[i]? = some x → I i M → (∀ M', I (i + 1) M' → N M') → g x ds M fun ds2 M2 => t ds2 M2 fun b M3 => if b = true then e ds2 M3 fun y M4 => ∃ acc, M4[L]? = some (some (.lst acc)) ∧ acc.length < sizeLine ∧ N (M4.set L (some (.lst (acc ++ [y])))) else N M3)
  (hd : ∀ M, I xs.length M → P M) : Zgo g t e ds L P xs M := by
 have key : ∀ (ys : List D) (i : Nat) (M : Mem), xs.drop i = ys → i ≤ xs.length → I i M → Zgo g t e ds L P ys M := by
  intro ys
  induction ys with
  | nil =>
   intro i M e hi hI
   have : xs.length ≤ i := Gp.mp e
   have : i = xs.length := by omega
   subst this
   exact hd M hI
  | cons y ys ih =>
   intro i M e hi hI
   have hlt : i < xs.length := by
    rcases G4 i xs.length with h | h
    ·exact h
    ·rw [H8 h] at e
     cases e
   rw [Qw hlt] at e
   obtain ⟨e1, e2⟩ := Hy e
   exact hs i y M (fun M => Zgo g t _ ds L P ys M) (by rw [← e1]; simp [hlt]) hI fun M' hI' => ih (i + 1) M' e2 hlt hI'
 exact key xs 0 M rfl (Qr _) h0
end
def snap (M : Mem) : Nat → D → Option PV
 | _, .v x => some x
 | n + 1, .cell i => (match M[i]? with
  | some (some (.lst ds)) => (ds.mapM (snap M n)).map PV.lst
  | _ => none)
 | _, _ => none
theorem Ya8 (M : Mem) (n : Nat) (x : PV) : snap M n (.v x) = some x := by cases n <;> rfl
theorem Ya9 {M : Mem} {n i : Nat} {ds : List D} {xs : List PV} (m : M[i]? = some (some (.lst ds))) (h : ds.mapM (snap M n) = some xs) : snap M (n + 1) (.cell i) = some (.lst xs) := by
 show (match M[i]? with | some (some (Cell.lst ds)) => (ds.mapM (snap M n)).map PV.lst | _ => none) = _
 rw [m]
 show (ds.mapM (snap M n)).map PV.lst = _
 rw [h]
 rfl
theorem Z0d {M : Mem} {n : Nat} : ∀ xs : List PV, (xs.map D.v).mapM (snap M n) = some xs
 | [] => rfl
 | x :: xs => by
  rw [Q3, List.mapM_cons, Ya8, Z0d xs]
  rfl
section
variable {S : Sc}
theorem Z8j {c : CS} {M : Mem} (ok : S.Ok c M) : ∀ (n : Nat) (d : D) (v : V) (a : PV), S.Vd c d v → snap M n d = some a → Zg9 a = true → Dp S.K c.H v (pdat a) := by
 intro n
 induction n with
 | zero =>
  intro d v a r h hd
  cases d with
  | v x => cases h; exact Rp.dp ok.rl.same _ v hd r
  | cell i => cases h
  | exn e => cases h
 | succ n ih =>
  intro d v a r h hd
  cases d with
  | v x => cases h; exact Rp.dp ok.rl.same _ v hd r
  | exn e => cases h
  | cell i =>
   have h' : (match M[i]? with | some (some (Cell.lst ds)) => (ds.mapM (snap M n)).map PV.lst | _ => none) = some a := h
   split at h'
   ·rename_i ds m
    cases hm : ds.mapM (snap M n) with
    | none => rw [hm] at h'; cases h'
    | some xs =>
     rw [hm] at h'
     cases h'
     obtain ⟨p, vs, rfl, g1, g2⟩ := Zvo ok r (Z1l m)
     have key : ∀ (ds : List D) (vs : List V) (xs : List PV), A2 (RpD S.K S.cs c.F c.ρ) ds vs → ds.mapM (snap M n) = some xs → Zkb xs = true → DpAll S.K c.H vs (Zd6 xs) := by
      intro ds
      induction ds with
      | nil =>
       intro vs xs g2 hm _
       cases g2
       cases hm
       exact .nil
      | cons d ds ih2 =>
       intro vs xs g2 hm hdl
       rw [List.mapM_cons] at hm
       cases hx : snap M n d with
       | none => rw [hx] at hm; cases hm
       | some x =>
        rw [hx] at hm
        cases hy : ds.mapM (snap M n) with
        | none => rw [hy] at hm; cases hm
        | some ys =>
         rw [hy] at hm
         cases hm
         have hd2 : (Zg9 x && Zkb ys) = true := hdl
         rw [Hq] at hd2
         cases g2 with
         | cons r1 r2 => exact .cons (ih d _ x r1 hx hd2.1) (ih2 _ ys r2 hy hd2.2)
     exact .lst (Zgg g1) (key ds vs xs g2 hm hd)
   ·cases h'
end
abbrev DJ := DSt → Mem → ((Mem → Prop) → List D → Mem → Prop) → Prop
def Zii (G : Mem → Prop) (g : DG) (b : DS) (E : Zfi) : List D → DSt → Mem → Prop
 | [], ds, M => G M ∧ E.nx ds M
 | x :: xs, ds, M => G M ∧ g x ds M fun ds2 M2 => b { E with nx := Zii G g b E xs, ct := Zii G g b E xs, bk := E.nx } ds2 M2
def Ygy (it : DJ) (g : DG) (b : DS) : DS := fun E ds M => it ds M fun G xs M1 => Zii G g b E xs ds M1
def Zx4 (G : Mem → Prop) (g : DG) (t : DT) (e : DE) (ds0 : DSt) (Q : List PV → Mem → Prop) : List D → List PV → Mem → Prop
 | [], acc, M => G M ∧ Q acc M
 | x :: xs, acc, M => G M ∧ g x ds0 M fun ds2 M2 => t ds2 M2 fun b M3 => if b = true then e ds2 M3 fun y M4 => ∃ z, y = .v z ∧ acc.length < sizeLine ∧ Zx4 G g t e ds0 Q xs (acc ++ [z]) M4 else Zx4 G g t e ds0 Q xs acc M3
def Zrt (G : Mem → Prop) (g : DG) (t : DT) (e : DE) (ds0 : DSt) (L : Nat) (Q : Mem → Prop) : List D → Mem → Prop
 | [], M => G M ∧ Q M
 | x :: xs, M => G M ∧ g x ds0 M fun ds2 M2 => t ds2 M2 fun b M3 => if b = true then e ds2 M3 fun y M4 => ∃ acc, M4[L]? = some (some (.lst acc)) ∧ acc.length < sizeLine ∧ Zrt G g t e ds0 L Q xs (M4.set L (some (.lst (acc ++ [y])))) else Zrt G g t e ds0 L Q xs M3
def jLs (a : DE) : DJ := fun ds M R => a ds M fun x M1 => ∃ xs, lsOf M1 x = some xs ∧ R (fun M' => lsOf M' x = some xs) xs M1
section
variable {S : Sc} {ts : TS} {dss : DS} {tt : TT} {dt : DT} {te ta : TE} {de da : DE}
def WkG (S : Sc) (c : CS) (J : It) (xs : List D) (G : Mem → Prop) : Prop := ∀ (i : Nat) c' M', Same c.F c'.F → c.ρ <+: c'.ρ → Rel S.K S.cs c' M' → G M' → (xs.length = i → J.stop i c'.H) ∧ ∀ d, xs[i]? = some d → J.go i c'.H ∧ ∀ x H', J.yld i c'.H x H' → ∃ c'', c''.H = H' ∧ Step c' M' c'' M' ∧ Rel S.K S.cs c'' M' ∧ S.Vd c'' d x
def SimJ (S : Sc) (t : TI) (d : DJ) : Prop := ∀ c M σ ds R Rd, S.Ok c M → S.St c ds σ → d ds M Rd → (∀ c' M' J xs G, Step c M c' M' → Rel S.K S.cs c' M' → WkG S c' J xs G → Rd G xs M' → R J c'.H) → t σ c.H R
theorem Zii.g {G : Mem → Prop} {g : DG} {b : DS} {E : Zfi} {ds : DSt} {M : Mem} : ∀ {xs : List D}, Zii G g b E xs ds M → G M
 | [], h => h.1
 | _ :: _, h => h.1
theorem Zx4.g {G : Mem → Prop} {g : DG} {t : DT} {e : DE} {ds : DSt} {Q : List PV → Mem → Prop} {acc : List PV} {M : Mem} : ∀ {xs : List D}, Zx4 G g t e ds Q xs acc M → G M
 | [], h => h.1
 | _ :: _, h => h.1
theorem Zrt.g {G : Mem → Prop} {g : DG} {t : DT} {e : DE} {ds : DSt} {L : Nat} {Q : Mem → Prop} {M : Mem} : ∀ {xs : List D}, Zrt G g t e ds L Q xs M → G M
 | [], h => h.1
 | _ :: _, h => h.1
theorem Z8m (ha : SimE S ta da) : SimJ S (iList S.K ta) (jLs da) := fun c M σ ds R Rd ok rs q po =>
 ha c M σ ds _ _ ok rs q fun c1 M1 v1 d1 s1 r1 p1 ⟨xs, e, q1⟩ => by
  have ok1 := ok.step s1 r1
  obtain ⟨a, vs, rfl, h1, h2⟩ := Zvo ok1 p1 e
  refine ⟨a, rfl, ⟨vs, Zgg h1⟩, po c1 M1 _ _ _ s1 r1 (fun i c' M' s p r hg => ?_) q1⟩
  have p1' : S.Vd c' d1 (.ref a) := RpD.mono s p p1
  obtain ⟨a', ws, ea, g1, g2⟩ := Zvo (S := ⟨S.K, S.cs, c', M'⟩) ⟨Step.refl _ _, r⟩ p1' hg
  cases ea
  have w := walk_list (K := S.K) (a := a) (xs := ws)
  have g := Zgg (K := S.K) g1
  have hn := g2.len
  refine ⟨fun e => by subst e; rw [hn]; exact w.stops _ g, fun d e => ?_⟩
  have hi : i < ws.length := by rw [← hn]; exact (Qa.mp e).1
  refine ⟨w.goes i _ hi g, fun x H' y => ?_⟩
  obtain ⟨e1, e2⟩ := w.yields i _ x H' hi g y
  obtain ⟨v, e3, e4⟩ := g2.get e
  rw [e2] at e3
  cases e3
  exact ⟨c', e1.symm, Step.refl _ _, r, e4⟩
theorem Zw6 {ti : TI} {di : DJ} {g : TG} {dg : DG} (hi : SimJ S ti di) (hg : SimG S g dg) (hb : SimS S ts dss) : SimS S (tFor ti g ts) (Ygy di dg dss) := fun c M σ ds E Ed ok rs q po =>
 hi c M σ ds _ _ ok rs q fun c1 M1 J xs G s1 r1 wk q1 => by
  refine ⟨fun i m σ' H' => ∃ c2 M2 ds2, c2.H = H' ∧ m = xs.length - i ∧ i ≤ xs.length ∧ Step c1 M1 c2 M2 ∧ Rel S.K S.cs c2 M2 ∧ S.St c2 ds2 σ' ∧ Zii G dg dss Ed (xs.drop i) ds2 M2, ⟨xs.length, c1, M1, ds, rfl, rfl, Qr _, Step.refl _ _, r1, rs.step s1, q1⟩, ?_⟩
  rintro i m σ' H' ⟨c2, M2, ds2, rfl, rfl, hi, s2, r2, p2, q2⟩
  obtain ⟨w1, w2⟩ := wk i c2 M2 s2.same s2.pre r2 q2.g
  by_cases hlt : i < xs.length
  ·obtain ⟨g1, g2⟩ := w2 xs[i] (by simp [hlt])
   rw [Qw hlt] at q2
   refine Or.inr ⟨g1, fun σ'' H'' => ∃ c3 M3 ds3, c3.H = H'' ∧ Step c1 M1 c3 M3 ∧ Rel S.K S.cs c3 M3 ∧ S.St c3 ds3 σ'' ∧ Zii G dg dss Ed (xs.drop (i + 1)) ds3 M3, fun σ'' H'' ⟨c3, M3, ds3, e, s3, r3, p3, q3⟩ => ⟨xs.length - (i + 1), by omega, c3, M3, ds3, e, rfl, hlt, s3, r3, p3, q3⟩, fun x H'' hy => ?_⟩
   obtain ⟨c3, rfl, s3, r3, p3⟩ := g2 x H'' hy
   have ok2 := (ok.step s1 r1).step s2 r2
   refine hg c3 M2 σ' ds2 _ _ _ _ (ok2.step s3 r3) (p2.step s3) p3 q2.2 fun c4 M4 σ4 ds4 s4 r4 p4 q4 => ?_
   have st : Step c1 M1 c4 M4 := s2.trans (s3.trans s4)
   have ps : PoS S c4 M4 (Zii G dg dss Ed (xs.drop (i + 1))) (fun σ'' H'' => ∃ c3 M3 ds3, c3.H = H'' ∧ Step c1 M1 c3 M3 ∧ Rel S.K S.cs c3 M3 ∧ S.St c3 ds3 σ'' ∧ Zii G dg dss Ed (xs.drop (i + 1)) ds3 M3) := fun c5 M5 σ5 ds5 s5 r5 p5 q5 => ⟨c5, M5, ds5, rfl, st.trans s5, r5, p5, q5⟩
   have po4 := po.step (s1.trans st)
   exact hb c4 M4 σ4 ds4 _ _ ((ok2.step s3 r3).step s4 r4) p4 q4 ⟨ps, po4.rt, po4.nx, ps⟩
  ·have e : xs.length = i := by omega
   rw [← e, Hl] at q2
   exact Or.inl ⟨w1 e, po.nx c2 M2 σ' ds2 (s1.trans s2) r2 p2 q2.2⟩
end
end Cl
namespace Cl
open PySem PySem.Spec PyProof.Rows L2 He ClX
def subC (d k : Cn) : Bool := decide (k = d) || (match d, k with
 | .Stage, .Drop | .Stage, .LastDrop | .Stage, .Write | .Stage, .Once | .Stage, .Add | .Drop, .LastDrop => true
 | _, _ => false)
def Zy9 (c : Cell) : Prop := ∃ (ns : List Int) (pos rest seed : Int), c = .lst [vL (ns.map PV.int), vI pos, vI rest, vI seed] ∧ 0 ≤ pos
theorem Zy9.low {c : Cell} {n : Nat} (h : Zy9 c) : c.low n := by
 obtain ⟨ns, pos, rest, seed, rfl, _⟩ := h
 intro i m
 simp at m
def Bg (M : Mem) (i : Nat) : Prop := ∃ c, M[i]? = some (some c) ∧ Zy9 c
def Bd (i : Nat) (M M' : Mem) : Prop := ∃ c, Zy9 c ∧ M' = M.set i (some c)
def Zm5 : DSp := fun ds M Q _ => ∃ ns, ds = [.v (.scr ns)] ∧ ∀ c, Zy9 c → Q (.cell M.length) (M ++ [some c])
def Zak : DSp := fun ds M Q _ => ∃ (b : Nat) (n : Int), ds = [.cell b, vI n] ∧ Bg M b ∧ 0 < n ∧ n < 1152921504606846976 ∧ ∀ (r : Nat) M', (r : Int) < n → Bd b M M' → Q (vI r) M'
def alph (ls vw : List Nat) : PV := .obj .Alphabet [.str ls, .str vw, .str (cons ls vw), .str (45 :: ls)]
def Zbn : DSp := fun ds M Q _ => ∃ z, ds = [vS z] ∧ z.length ≤ 1000 ∧ Q (vB (decide z.Nodup)) M
def Zbt : DSp := fun ds M Q E => ∃ n ls vw, ds = [.cell n, vS ls, vS vw] ∧ M[n]? = some (some (.obj .Alphabet [])) ∧ ls.length ≤ 60 ∧ vw.length ≤ 60 ∧
 (¬ okL ls → E ⟨.BadAlphabet, [.str txL]⟩ M) ∧ (okL ls → ¬ okV ls vw → E ⟨.BadAlphabet, [.str txV]⟩ M) ∧
 (okL ls → okV ls vw → Q (.v .non) (M.set n (some (.obj .Alphabet ([.str (srt ls), .str (srt vw), .str (cons (srt ls) vw), .str (45 :: srt ls)].map D.v)))))
def Zaq : DSp := fun ds M Q _ => ∃ ls vw ls' vw', ds = [.v (alph ls vw), .v (alph ls' vw')] ∧ Q (vB (decide (ls = ls') && decide (vw = vw'))) M
def Zan : DSp := fun ds M Q _ => ∃ ls vw z, ds = [.v (alph ls vw), vS z] ∧ Q (vB (isW ls z)) M
def Zag : DSp := fun ds M Q E => ∃ ls vw z, ds = [.v (alph ls vw), vS z] ∧ z.length ≤ 60 ∧ (okS ls z → Q (vS (inner z)) M) ∧ (¬ okS ls z → E ⟨.BadStage, [.str txS]⟩ M)
def Zam : DSp := fun ds M Q E => ∃ ls vw z, ds = [.v (alph ls vw), vS z] ∧ z.length ≤ 60 ∧ (okN ls z → Q (vS (mem ls vw z)) M) ∧ (¬ okN ls z → E ⟨.BadStage, [.str txS]⟩ M)
def Zea : DSp := fun ds M Q _ => ∃ (b top : Nat), ds = [.cell b, vI top] ∧ Bg M b ∧ 1 ≤ top ∧ top ≤ 8 ∧ ∀ ls M', okL ls → ls.Pairwise (· < ·) → ls.length ≤ top → Bd b M M' → Q (vS ls) M'
def Ze2 : DSp := fun ds M Q _ => ∃ (b : Nat) (ls : List Nat), ds = [.cell b, vS ls] ∧ Bg M b ∧ ls.length ≤ 26 ∧ ∀ vw M', vw.Sublist ls → Bd b M M' → Q (vS vw) M'
def Zd9 : DSp := fun ds M Q _ => ∃ ls vw z, ds = [vS ls, vS vw, vS z] ∧ ls.length ≤ 60 ∧ z.length ≤ 60 ∧ Q (vS (mem ls vw z)) M
def Zfh : DSp := fun ds M Q _ => ∃ (b : Nat) (ls : List Nat), ds = [.cell b, vS ls] ∧ Bg M b ∧ ls.Pairwise (· < ·) ∧ (∀ c ∈ ls, c ∈ small) ∧ ls.length ≤ 8 ∧ ∀ z M', okN ls z → z.length ≤ 60 → Bd b M M' → Q (vS z) M'
def Zib : DSp := fun ds M Q _ => ∃ (b : Nat) (sg : List Nat) (top : Nat), ds = [.cell b, vS sg, vI top] ∧ Bg M b ∧ 1 ≤ sg.length ∧ sg.length ≤ 60 ∧ top ≤ 60 ∧ ∀ z M', (∀ c ∈ z, c ∈ sg) → z.length ≤ top → Bd b M M' → Q (vS z) M'
inductive Stg where
 | drop (nm ch : List Nat) (a : Nat) (each last : Bool)
 | write (x : Nat) (nm ch : List Nat)
 | once (nm ch : List Nat)
 | add (x : Nat)
def Stg.cls : Stg → Cn
 | .drop _ _ _ _ l => if l then .LastDrop else .Drop
 | .write _ _ _ => .Write
 | .once _ _ => .Once
 | .add _ => .Add
def Stg.fs (al : PV) : Stg → List PV
 | .drop nm ch a e _ => [al, .str nm, .str ch, .int a, .bl e]
 | .write x nm ch => [al, .str [x], .str nm, .str ch]
 | .once nm ch => [al, .str nm, .str ch]
 | .add x => [al, .str [x]]
def Stg.pv (al : PV) (s : Stg) : PV := .obj s.cls (s.fs al)
structure Sta where
 n : Nat := 0
 w : List Nat := []
def Stg.val : Stg → Sta → PV
 | .drop _ _ _ _ l, s => if l then .tup [.int s.n, .str s.w] else .int s.n
 | .once _ _, s => .str s.w
 | _, _ => .int 0
def Zju (ch : List Nat) (a : Nat) (each : Bool) (n c : Nat) : Nat := if each = true ∧ c = 45 then 0 else if n < a then n + 1 else n
def Zeo (ch : List Nat) (a : Nat) (each : Bool) (n c : Nat) : List Nat := if each = true ∧ c = 45 then [c] else if n < a then [c] else if c ∈ ch then [] else [c]
def Stg.step : Stg → Sta → Nat → Sta
 | .drop _ ch a e l, s, c => if l = true then { n := Zju ch a e s.n c, w := if e = true ∧ c = 45 then [] else if Zeo ch a e s.n c = [] then [c] else [] } else { n := Zju ch a e s.n c, w := [] }
 | .once _ _, _, c => { w := [c] }
 | _, _, _ => {}
def Stg.out : Stg → Sta → Nat → List Nat
 | .drop _ ch a e l, s, c => if l = true ∧ e = true ∧ c = 45 then s.w ++ Zeo ch a e s.n c else Zeo ch a e s.n c
 | .write x _ ch, _, c => if c ∈ ch then [x] else [c]
 | .once _ ch, s, c => if [c] = s.w ∧ c ∈ ch then [] else [c]
 | .add _, _, c => [c]
def Stg.fin : Stg → Sta → List Nat
 | .drop _ _ _ _ l, s => if l = true then s.w else []
 | .add x, _ => [x]
 | _, _ => []
def Sta.ok (s : Sta) : Prop := s.w.length ≤ 1
def Stg.go (st : Stg) : Sta → List Nat → List Nat
 | s, [] => st.fin s
 | s, c :: z => st.out s c ++ st.go (st.step s c) z
def Stg.run (st : Stg) (z : List Nat) : List Nat := st.go {} z
def dig : Nat → List Nat := fun n => [48 + n]
def Stg.text : Stg → List Nat
 | .drop nm _ a e l => [100, 114, 111, 112, 32] ++ nm ++ (if 0 < a then [32, 97, 102, 116, 101, 114, 32] ++ dig a else []) ++ (if e = true then [32, 101, 97, 99, 104] else []) ++ (if l = true then [32, 98, 117, 116, 32, 108, 97, 115, 116] else [])
 | .write x nm _ => [119, 114, 105, 116, 101, 32] ++ [x] ++ [32, 102, 111, 114, 32] ++ nm
 | .once nm _ => [111, 110, 99, 101, 32] ++ nm
 | .add x => [97, 100, 100, 32] ++ [x]
def Stg.ok (ls vw : List Nat) : Stg → Prop
 | .drop nm ch a _ _ => okN ls nm ∧ ch = mem ls vw nm ∧ nm.length ≤ 60 ∧ a ≤ 3
 | .write x nm ch => x ∈ 45 :: ls ∧ okN ls nm ∧ ch = mem ls vw nm ∧ nm.length ≤ 60
 | .once nm ch => okN ls nm ∧ ch = mem ls vw nm ∧ nm.length ≤ 60
 | .add x => x ∈ 45 :: ls
def Zxt : Stg → Prop
 | .drop _ _ _ _ l => l = true
 | _ => False
def Zrc : Stg → Prop
 | .write _ _ _ => True
 | _ => False
def Zxs : Stg → Prop
 | .once _ _ => True
 | _ => False
def isAdd : Stg → Prop
 | .add _ => True
 | _ => False
def Z2i (ok : Stg → Prop) : DSp := fun ds M Q _ => ∃ al st, ds = [.v (Stg.pv al st)] ∧ ok st ∧ (∃ ls vw, st.ok ls vw) ∧ Q (vS st.text) M
def Zt1 (ok : Stg → Prop) : DSp := fun ds M Q _ => ∃ al st, ds = [.v (Stg.pv al st)] ∧ ok st ∧ Q (.v (st.val {})) M
def Z2j (ok : Stg → Prop) : DSp := fun ds M Q _ => ∃ al st s c, ds = [.v (Stg.pv al st), .v (st.val s), vS [c]] ∧ ok st ∧ s.ok ∧ Q (vT [st.val (st.step s c), .str (st.out s c)]) M
def gEnd (ok : Stg → Prop) : DSp := fun ds M Q _ => ∃ al st s, ds = [.v (Stg.pv al st), .v (st.val s)] ∧ ok st ∧ s.ok ∧ Q (vS (st.fin s)) M
def Zax : DSp := fun ds M Q _ => ∃ n k al, ds = [.cell n, al] ∧ M[n]? = some (some (.obj k [])) ∧ k.ix .alphabet = 0 ∧ 0 < k.flds.length ∧ Q (.v .non) (M.set n (some (.obj k [al])))
abbrev txSg : List Nat := [115, 105, 103, 110]
abbrev txAf : List Nat := [97, 102, 116, 101, 114]
def okX (ls z : List Nat) : Prop := z.length = 1 ∧ isW ls z = true
def Zc3 : DSp := fun ds M Q E => ∃ n ls vw x z, ds = [.cell n, .v (alph ls vw), vS x, vS z] ∧ M[n]? = some (some (.obj .Write [])) ∧ x.length ≤ 60 ∧ z.length ≤ 60 ∧
 (¬ okX ls x → ∀ o, E ⟨.BadStage, [.str txSg]⟩ (M.set n o)) ∧ (okX ls x → ¬ okN ls z → ∀ o, E ⟨.BadStage, [.str txS]⟩ (M.set n o)) ∧
 (∀ c, x = [c] → okX ls x → okN ls z → Q (.v .non) (M.set n (some (.obj .Write ((Stg.fs (alph ls vw) (.write c z (mem ls vw z))).map D.v)))))
def Zeb : DSp := fun ds M Q E => ∃ n ls vw z, ds = [.cell n, .v (alph ls vw), vS z] ∧ M[n]? = some (some (.obj .Once [])) ∧ z.length ≤ 60 ∧
 (¬ okN ls z → ∀ o, E ⟨.BadStage, [.str txS]⟩ (M.set n o)) ∧ (okN ls z → Q (.v .non) (M.set n (some (.obj .Once ((Stg.fs (alph ls vw) (.once z (mem ls vw z))).map D.v)))))
def Ze5 : DSp := fun ds M Q E => ∃ n ls vw x, ds = [.cell n, .v (alph ls vw), vS x] ∧ M[n]? = some (some (.obj .Add [])) ∧ x.length ≤ 60 ∧
 (¬ okX ls x → ∀ o, E ⟨.BadStage, [.str txSg]⟩ (M.set n o)) ∧ (∀ c, x = [c] → okX ls x → Q (.v .non) (M.set n (some (.obj .Add ((Stg.fs (alph ls vw) (.add c)).map D.v)))))
def Zbs : DSp := fun ds M Q E => ∃ n k ls vw z a e, ds = [.cell n, .v (alph ls vw), vS z, vI a, vB e] ∧ M[n]? = some (some (.obj k [])) ∧ (k = .Drop ∨ k = .LastDrop) ∧ z.length ≤ 60 ∧
 (¬ okN ls z → ∀ o, E ⟨.BadStage, [.str txS]⟩ (M.set n o)) ∧ (okN ls z → ¬ (0 ≤ a ∧ a ≤ 3) → ∀ o, E ⟨.BadStage, [.str txAf]⟩ (M.set n o)) ∧
 (∀ b : Nat, a = b → okN ls z → b ≤ 3 → ∀ l, Q (.v .non) (M.set n (some (.obj k ((Stg.fs (alph ls vw) (.drop z (mem ls vw z) b e l)).map D.v)))))
def Za6 : DSp := fun ds M Q E => (∃ n r, ds = .cell n :: r ∧ M[n]? = some (some (.obj .LastDrop []))) ∧ Zbs ds M Q E
def Zba : DSp := fun ds M Q _ => ∃ al nm ch a e l, ds = [.v (Stg.pv al (.drop nm ch a e l))] ∧ nm.length ≤ 60 ∧ a ≤ 3 ∧ Q (vS (Stg.text (.drop nm ch a e false))) M
def Zay : DSp := fun ds M Q _ => ∃ al nm ch a e l, ds = [.v (Stg.pv al (.drop nm ch a e l))] ∧ Q (vI 0) M
def Zbb : DSp := fun ds M Q _ => ∃ al nm ch a e l, ∃ (n : Nat) (c : Nat), ds = [.v (Stg.pv al (.drop nm ch a e l)), vI n, vS [c]] ∧ Q (vT [.int (Zju ch a e n c), .str (Zeo ch a e n c)]) M
def Zbw : DSp := fun ds M Q _ => ∃ al nm ch a e l, ∃ (n : Nat), ds = [.v (Stg.pv al (.drop nm ch a e l)), vI n] ∧ Q (vS []) M
abbrev Zas := Z2i Zxt
abbrev Zap := Zt1 Zxt
abbrev Zat := Z2j Zxt
abbrev Za0 := gEnd Zxt
abbrev Zb8 := Z2i Zrc
abbrev Zbv := Zt1 Zrc
abbrev Zb9 := Z2j Zrc
abbrev Zcl := gEnd Zrc
abbrev Zcn := Z2i Zxs
abbrev Zca := Zt1 Zxs
abbrev Zco := Z2j Zxs
abbrev Zdk := gEnd Zxs
abbrev Zdl := Z2i isAdd
abbrev Zcp := Zt1 isAdd
abbrev Zdm := Z2j isAdd
abbrev Ze6 := gEnd isAdd
def Zbo : DSp := fun ds M Q E => ∃ ls vw st z, ds = [.v (Stg.pv (alph ls vw) st), vS z] ∧ z.length ≤ 1000 ∧ (isW ls z = false → E ⟨.BadWord, [.str z]⟩ M) ∧ (isW ls z = true → Q (vS (st.run z)) M)
def Za4 : Cn → Option DSp
 | .Alphabet => some Zan
 | _ => none
def Za3 : Cn → Option DSp
 | .Alphabet => some Zam
 | _ => none
def Zbu : Cn → Option DSp
 | .Alphabet => some Zag
 | _ => none
def Zm3 : Cn → Option DSp
 | .Drop => some Zba | .LastDrop => some Zas | .Write => some Zb8 | .Once => some Zcn | .Add => some Zdl
 | _ => none
def Zia : Cn → Option DSp
 | .Drop => some Zay | .LastDrop => some Zap | .Write => some Zbv | .Once => some Zca | .Add => some Zcp
 | _ => none
def Zjs : Cn → Option DSp
 | .Drop => some Zbb | .LastDrop => some Zat | .Write => some Zb9 | .Once => some Zco | .Add => some Zdm
 | _ => none
def Ztz : Cn → Option DSp
 | .Drop => some Zbw | .LastDrop => some Za0 | .Write => some Zcl | .Once => some Zdk | .Add => some Ze6
 | _ => none
def Zrd : Cn → Option DSp
 | .Drop | .LastDrop | .Write | .Once | .Add => some Zbo
 | _ => none
theorem Zvu {g : Cn → Option DSp} {m : Str} (ks : List Cn) (hk : ∀ k, (g k).isSome = true → k ∈ ks) (h : (ks.all fun k => k.flds.all fun f => decide (f.str ≠ m)) = true) : ∀ k, (g k).isSome = true → ∀ f ∈ k.flds, f.str ≠ m := fun k q f hf =>
 of_decide_eq_true (Q8.mp (Q8.mp h k (hk k q)) f hf)
abbrev Z5w : List Cn := [.Drop, .LastDrop, .Write, .Once, .Add]
theorem Zjr : ∀ k, (Za4 k).isSome = true → ∀ f ∈ k.flds, f.str ≠ "is_word" := Zvu [.Alphabet] (fun k h => by cases k <;> first | (cases h; done) | simp) (by decide +kernel)
theorem Zge : ∀ k, (Za3 k).isSome = true → ∀ f ∈ k.flds, f.str ≠ "members" := Zvu [.Alphabet] (fun k h => by cases k <;> first | (cases h; done) | simp) (by decide +kernel)
theorem Zjq : ∀ k, (Zbu k).isSome = true → ∀ f ∈ k.flds, f.str ≠ "listed_members" := Zvu [.Alphabet] (fun k h => by cases k <;> first | (cases h; done) | simp) (by decide +kernel)
theorem Z9y : ∀ k, (Zm3 k).isSome = true → ∀ f ∈ k.flds, f.str ≠ "text" := Zvu Z5w (fun k h => by cases k <;> first | (cases h; done) | simp) (by decide +kernel)
theorem Z5b : ∀ k, (Zia k).isSome = true → ∀ f ∈ k.flds, f.str ≠ "start" := Zvu Z5w (fun k h => by cases k <;> first | (cases h; done) | simp) (by decide +kernel)
theorem Z9z : ∀ k, (Zjs k).isSome = true → ∀ f ∈ k.flds, f.str ≠ "step" := Zvu Z5w (fun k h => by cases k <;> first | (cases h; done) | simp) (by decide +kernel)
theorem Ydw : ∀ k, (Ztz k).isSome = true → ∀ f ∈ k.flds, f.str ≠ "end" := Zvu Z5w (fun k h => by cases k <;> first | (cases h; done) | simp) (by decide +kernel)
section
variable (ds : List D) (M : Mem) (Q : DQ) (E : DX)
theorem Zvq (h : Zm5 ds M Q E) : ds.length = 1 := by obtain ⟨_, rfl, _⟩ := h; rfl
theorem Ztq (h : Zak ds M Q E) : ds.length = 2 := by obtain ⟨_, _, rfl, _⟩ := h; rfl
theorem Zg3 (h : Zbn ds M Q E) : ds.length = 1 := by obtain ⟨_, rfl, _⟩ := h; rfl
theorem Zg7 (h : Zbt ds M Q E) : ds.length = 3 := by obtain ⟨_, _, _, rfl, _⟩ := h; rfl
theorem Zji (h : Zaq ds M Q E) : ds.length = 2 := by obtain ⟨_, _, _, _, rfl, _⟩ := h; rfl
theorem Zfl (h : Zan ds M Q E) : ds.length = 2 := by obtain ⟨_, _, _, rfl, _⟩ := h; rfl
theorem Zda (h : Zag ds M Q E) : ds.length = 2 := by obtain ⟨_, _, _, rfl, _⟩ := h; rfl
theorem Zfk (h : Zam ds M Q E) : ds.length = 2 := by obtain ⟨_, _, _, rfl, _⟩ := h; rfl
theorem Zmp (h : Zea ds M Q E) : ds.length = 2 := by obtain ⟨_, _, rfl, _⟩ := h; rfl
theorem Zn8 (h : Ze2 ds M Q E) : ds.length = 2 := by obtain ⟨_, _, rfl, _⟩ := h; rfl
theorem Zmo (h : Zd9 ds M Q E) : ds.length = 3 := by obtain ⟨_, _, _, rfl, _⟩ := h; rfl
theorem Ztr (h : Zfh ds M Q E) : ds.length = 2 := by obtain ⟨_, _, rfl, _⟩ := h; rfl
theorem Ztp (h : Zib ds M Q E) : ds.length = 3 := by obtain ⟨_, _, _, rfl, _⟩ := h; rfl
theorem Zh5 {ok : Stg → Prop} (h : Z2i ok ds M Q E) : ds.length = 1 := by obtain ⟨_, _, rfl, _⟩ := h; rfl
theorem Zgb {ok : Stg → Prop} (h : Zt1 ok ds M Q E) : ds.length = 1 := by obtain ⟨_, _, rfl, _⟩ := h; rfl
theorem Zh6 {ok : Stg → Prop} (h : Z2j ok ds M Q E) : ds.length = 3 := by obtain ⟨_, _, _, _, rfl, _⟩ := h; rfl
theorem Zlg {ok : Stg → Prop} (h : gEnd ok ds M Q E) : ds.length = 2 := by obtain ⟨_, _, _, rfl, _⟩ := h; rfl
theorem Zk0 (h : Zax ds M Q E) : ds.length = 2 := by obtain ⟨_, _, _, rfl, _⟩ := h; rfl
theorem Zkz (h : Zc3 ds M Q E) : ds.length = 4 := by obtain ⟨_, _, _, _, _, rfl, _⟩ := h; rfl
theorem Zmv (h : Zeb ds M Q E) : ds.length = 3 := by obtain ⟨_, _, _, _, rfl, _⟩ := h; rfl
theorem Zoe (h : Ze5 ds M Q E) : ds.length = 3 := by obtain ⟨_, _, _, _, rfl, _⟩ := h; rfl
theorem Zfz (h : Zbs ds M Q E) : ds.length = 5 := by obtain ⟨_, _, _, _, _, _, _, rfl, _⟩ := h; rfl
theorem Zk1 (h : Zbo ds M Q E) : ds.length = 2 := by obtain ⟨_, _, _, _, rfl, _⟩ := h; rfl
end
theorem Zkx (ds : List D) (M : Mem) (Q : DQ) (E : DX) (h : Zb8 ds M Q E) : ds.length = 1 := Zh5 ds M Q E h
theorem Zjh (ds : List D) (M : Mem) (Q : DQ) (E : DX) (h : Zbv ds M Q E) : ds.length = 1 := Zgb ds M Q E h
theorem Zky (ds : List D) (M : Mem) (Q : DQ) (E : DX) (h : Zb9 ds M Q E) : ds.length = 3 := Zh6 ds M Q E h
theorem Zmq (ds : List D) (M : Mem) (Q : DQ) (E : DX) (h : Zcl ds M Q E) : ds.length = 2 := Zlg ds M Q E h
theorem Zmt (ds : List D) (M : Mem) (Q : DQ) (E : DX) (h : Zcn ds M Q E) : ds.length = 1 := Zh5 ds M Q E h
theorem Zk3 (ds : List D) (M : Mem) (Q : DQ) (E : DX) (h : Zca ds M Q E) : ds.length = 1 := Zgb ds M Q E h
theorem Zmu (ds : List D) (M : Mem) (Q : DQ) (E : DX) (h : Zco ds M Q E) : ds.length = 3 := Zh6 ds M Q E h
theorem Zn9 (ds : List D) (M : Mem) (Q : DQ) (E : DX) (h : Zdk ds M Q E) : ds.length = 2 := Zlg ds M Q E h
theorem Zoc (ds : List D) (M : Mem) (Q : DQ) (E : DX) (h : Zdl ds M Q E) : ds.length = 1 := Zh5 ds M Q E h
theorem Zmz (ds : List D) (M : Mem) (Q : DQ) (E : DX) (h : Zcp ds M Q E) : ds.length = 1 := Zgb ds M Q E h
theorem Zod (ds : List D) (M : Mem) (Q : DQ) (E : DX) (h : Zdm ds M Q E) : ds.length = 3 := Zh6 ds M Q E h
theorem Zq5 (ds : List D) (M : Mem) (Q : DQ) (E : DX) (h : Ze6 ds M Q E) : ds.length = 2 := Zlg ds M Q E h
theorem Zmx (ds : List D) (M : Mem) (Q : DQ) (E : DX) (h : Zba ds M Q E) : ds.length = 1 := by obtain ⟨_, _, _, _, _, _, rfl, _⟩ := h; rfl
theorem Zk4 (ds : List D) (M : Mem) (Q : DQ) (E : DX) (h : Zay ds M Q E) : ds.length = 1 := by obtain ⟨_, _, _, _, _, _, rfl, _⟩ := h; rfl
theorem Zmy (ds : List D) (M : Mem) (Q : DQ) (E : DX) (h : Zbb ds M Q E) : ds.length = 3 := by obtain ⟨_, _, _, _, _, _, _, _, rfl, _⟩ := h; rfl
theorem Zob (ds : List D) (M : Mem) (Q : DQ) (E : DX) (h : Zbw ds M Q E) : ds.length = 2 := by obtain ⟨_, _, _, _, _, _, _, rfl, _⟩ := h; rfl
theorem Zg4 (ds : List D) (M : Mem) (Q : DQ) (E : DX) (h : Zas ds M Q E) : ds.length = 1 := Zh5 ds M Q E h
theorem Zgj (ds : List D) (M : Mem) (Q : DQ) (E : DX) (h : Zap ds M Q E) : ds.length = 1 := Zgb ds M Q E h
theorem Zg5 (ds : List D) (M : Mem) (Q : DQ) (E : DX) (h : Zat ds M Q E) : ds.length = 3 := Zh6 ds M Q E h
theorem Zh4 (ds : List D) (M : Mem) (Q : DQ) (E : DX) (h : Za0 ds M Q E) : ds.length = 2 := Zlg ds M Q E h
theorem Zg6 (ds : List D) (M : Mem) (Q : DQ) (E : DX) (h : Za6 ds M Q E) : ds.length = 5 := Zfz ds M Q E h.2
def Zbi : DS :=
 dRet (dOp uEq (Zrs (Zaa (dVar 0) dNil)) (dCB uLen (Zaa (dVar 0) dNil)))
def Zbm (E : DX) : DS :=
 dSeq (dAsg (dLc (jStr (dVar 1)) (hName 4) (Zae (dOp Zhg (dVar 4) (dC (.str [97, 98, 99, 100, 101, 102, 103, 104, 105, 106, 107, 108, 109, 110, 111, 112, 113, 114, 115, 116, 117, 118, 119, 120, 121, 122])))) (dVar 4) [4]) (hName 3)) (dSeq (dIfS (dOr (dTru (dVar 3)) (dOr (dNot (Zae (Znh uLe uLe (dC (.int 1)) (dCB uLen (Zaa (dVar 1) dNil)) (dC (.int 8))))) (dNot (dTru (Zau Zbn noX (Zaa (dVar 1) dNil)))))) (Zdc .BadAlphabet E (Zaa (dC (.str [108, 101, 116, 116, 101, 114, 115])) dNil)) Zaf) (dSeq (dIfS (dOr (dTru (dLc (jStr (dVar 2)) (hName 4) (Zae (dOp Zhg (dVar 4) (dVar 1))) (dVar 4) [4])) (dNot (dTru (Zau Zbn noX (Zaa (dVar 2) dNil))))) (Zdc .BadAlphabet E (Zaa (dC (.str [118, 111, 119, 101, 108, 115])) dNil)) Zaf) (dSeq (dStF (dVar 0) (dBm tyS Zdn (dC (.str [])) (Zaa (dCB uSrt (Zaa (dVar 1) dNil)) dNil)) .letters) (dSeq (dStF (dVar 0) (dBm tyS Zdn (dC (.str [])) (Zaa (dCB uSrt (Zaa (dVar 2) dNil)) dNil)) .vowels) (dSeq (dStF (dVar 0) (dBm tyS Zdn (dC (.str [])) (Zaa (dLc (jLst (dCB uSrt (Zaa (dVar 1) dNil))) (hName 4) (Zae (dOp Zhg (dVar 4) (dVar 2))) (dVar 4) [4]) dNil)) .consonants) (dStF (dVar 0) (dOp uAdd (dC (.str [45])) (dFld (dVar 0) .letters)) .signs))))))
def Zaw : DS :=
 dSeq (dFor (jStr (dVar 1)) (hName 2) (dIfS (Zae (dOp Zhg (dVar 2) (dFld (dVar 0) .signs))) (dRet (dC (.bl false))) Zaf)) (dRet (dC (.bl true)))
def Zaj (E : DX) : DS :=
 dSeq (dAsg (dSl uSl (dVar 1) (Zej (dC (.int 1))) (Zej (dUn uNeg (dC (.int 1))))) (hName 2)) (dSeq (dIfS (dOr (Zae (dOp uLt (dCB uLen (Zaa (dVar 1) dNil)) (dC (.int 3)))) (dOr (Zae (dOp uNe (dOp uIx (dVar 1) (dC (.int 0))) (dC (.str [91])))) (Zae (dOp uNe (dOp uIx (dVar 1) (dUn uNeg (dC (.int 1)))) (dC (.str [93])))))) (Zdc .BadStage E (Zaa (dC (.str [115, 101, 116])) dNil)) Zaf) (dSeq (dIfS (dOr (dNot (dTru (Zc4 Za4 [] noX (dVar 0) (Zaa (dVar 2) dNil)))) (Zae (dOp uNe (dBm tyS Zdn (dC (.str [])) (Zaa (Zro (Zaa (dVar 2) dNil)) dNil)) (dVar 2)))) (Zdc .BadStage E (Zaa (dC (.str [115, 101, 116])) dNil)) Zaf) (dRet (dVar 2))))
def Zav (E : DX) : DS :=
 dSeq (dIfS (Zae (dOp uEq (dVar 1) (dC (.str [97, 108, 108])))) (dRet (dFld (dVar 0) .signs)) Zaf) (dSeq (dIfS (Zae (dOp uEq (dVar 1) (dC (.str [108, 101, 116, 116, 101, 114, 115])))) (dRet (dFld (dVar 0) .letters)) Zaf) (dSeq (dIfS (Zae (dOp uEq (dVar 1) (dC (.str [118, 111, 119, 101, 108, 115])))) (dRet (dFld (dVar 0) .vowels)) Zaf) (dSeq (dIfS (Zae (dOp uEq (dVar 1) (dC (.str [99, 111, 110, 115, 111, 110, 97, 110, 116, 115])))) (dRet (dFld (dVar 0) .consonants)) Zaf) (dSeq (dIfS (Zae (dOp uEq (dVar 1) (dC (.str [106, 111, 105, 110, 116, 115])))) (dRet (dC (.str [45]))) Zaf) (dRet (Zc4 Zbu [] E (dVar 0) (Zaa (dVar 1) dNil)))))))
def Zcz : DS :=
 dStF (dVar 0) (dVar 1) .alphabet
def Zcy (E : DX) : DS :=
 dSeq (Zf4 (dSup (subC .Write) Zax noX (Zaa (dVar 1) dNil))) (dSeq (dIfS (dOr (Zae (dOp uNe (dCB uLen (Zaa (dVar 2) dNil)) (dC (.int 1)))) (dNot (dTru (Zc4 Za4 [] noX (dVar 1) (Zaa (dVar 2) dNil))))) (Zdc .BadStage E (Zaa (dC (.str [115, 105, 103, 110])) dNil)) Zaf) (dSeq (dStF (dVar 0) (dVar 2) .sign) (dSeq (dStF (dVar 0) (dVar 3) .name) (dStF (dVar 0) (Zc4 Za3 [] E (dVar 1) (Zaa (dVar 3) dNil)) .chosen))))
def Zcw : DS :=
 dRet (dFs [dC (.str [119, 114, 105, 116, 101, 32]), dFmt (dFld (dVar 0) .sign), dC (.str [32, 102, 111, 114, 32]), dFmt (dFld (dVar 0) .name)])
def Zfd : DS :=
 dRet (dC (.int 0))
def Zcx : DS :=
 dSeq (dIfS (Zae (dOp uIn (dVar 2) (dFld (dVar 0) .chosen))) (dRet (dTup (Zaa (dVar 1) (Zaa (dFld (dVar 0) .sign) dNil)))) Zaf) (dRet (dTup (Zaa (dVar 1) (Zaa (dVar 2) dNil))))
def Zgx : DS :=
 dRet (dC (.str []))
def Zd0 (E : DX) : DS :=
 dSeq (Zf4 (dSup (subC .Once) Zax noX (Zaa (dVar 1) dNil))) (dSeq (dStF (dVar 0) (dVar 2) .name) (dStF (dVar 0) (Zc4 Za3 [] E (dVar 1) (Zaa (dVar 2) dNil)) .chosen))
def Zdy : DS :=
 dRet (dOp uAdd (dC (.str [111, 110, 99, 101, 32])) (dFld (dVar 0) .name))
def Zft : DS :=
 dRet (dC (.str []))
def Zdz : DS :=
 dSeq (dIfS (dAnd (Zae (dOp uEq (dVar 2) (dVar 1))) (Zae (dOp uIn (dVar 2) (dFld (dVar 0) .chosen)))) (dRet (dTup (Zaa (dVar 2) (Zaa (dC (.str [])) dNil)))) Zaf) (dRet (dTup (Zaa (dVar 2) (Zaa (dVar 2) dNil))))
def Zi6 : DS :=
 dRet (dC (.str []))
def Zez (E : DX) : DS :=
 dSeq (Zf4 (dSup (subC .Add) Zax noX (Zaa (dVar 1) dNil))) (dSeq (dIfS (dOr (Zae (dOp uNe (dCB uLen (Zaa (dVar 2) dNil)) (dC (.int 1)))) (dNot (dTru (Zc4 Za4 [] noX (dVar 1) (Zaa (dVar 2) dNil))))) (Zdc .BadStage E (Zaa (dC (.str [115, 105, 103, 110])) dNil)) Zaf) (dStF (dVar 0) (dVar 2) .sign))
def Zex : DS :=
 dRet (dOp uAdd (dC (.str [97, 100, 100, 32])) (dFld (dVar 0) .sign))
def Zgy : DS :=
 dRet (dC (.int 0))
def Zey : DS :=
 dRet (dTup (Zaa (dVar 1) (Zaa (dVar 2) dNil)))
def Zfw : DS :=
 dRet (dFld (dVar 0) .sign)
def Zc0 (E : DX) : DS :=
 dSeq (dIfS (dNot (dTru (Zc4 Za4 [] noX (dFld (dVar 0) .alphabet) (Zaa (dVar 1) dNil)))) (Zdc .BadWord E (Zaa (dVar 1) dNil)) Zaf) (dSeq (dAsg (Zc4 Zia [] noX (dVar 0) dNil) (hName 2)) (dSeq (dAsg (Zrr dNil) (hName 3)) (dSeq (dFor (jStr (dVar 1)) (hName 4) (dSeq (dAsg (Zc4 Zjs [] noX (dVar 0) (Zaa (dVar 2) (Zaa (dVar 4) dNil))) (hTup 2 (Zjp (hName 2) (Zjp (hName 5) hNil)))) (Zf4 (dBm tyL uApp (dVar 3) (Zaa (dVar 5) dNil))))) (dSeq (Zf4 (dBm tyL uApp (dVar 3) (Zaa (Zc4 Ztz [] noX (dVar 0) (Zaa (dVar 2) dNil)) dNil))) (dRet (dBm tyS Zdn (dC (.str [])) (Zaa (dVar 3) dNil)))))))
def Zmf : DS :=
 dRet (Zrr (Zaa (dCB Zuz (Zaa (dSl uSl (dVar 0) Zci (Zej (dC (.int 63)))) dNil)) (Zaa (dC (.int 0)) (Zaa (dC (.int 0)) (Zaa (dC (.int 1)) dNil)))))
def Zhu : DS :=
 dSeq (dIfS (Zae (dOp uGt (dOp uIx (dVar 0) (dC (.int 2))) (dC (.int 0)))) (dSeq (dAsg (dCB uInt (Zaa (dOp uIx (dVar 0) (dC (.int 2))) dNil)) (hName 2)) (dSeq (dAsg (dOp uDiv (dVar 2) (dVar 1)) (hSub (dVar 0) (dC (.int 2)))) (dRet (dOp uMod (dCB uInt (Zaa (dVar 2) dNil)) (dVar 1))))) Zaf) (dSeq (dAsg (dC (.int 0)) (hName 3)) (dCut (dIfS (Zae (dOp uLt (dOp uIx (dVar 0) (dC (.int 1))) (dCB uLen (Zaa (dOp uIx (dVar 0) (dC (.int 0))) dNil)))) (dAsg (dOp uIx (dOp uIx (dVar 0) (dC (.int 0))) (dOp uIx (dVar 0) (dC (.int 1)))) (hName 3)) Zaf) (dSeq (dAsg (dOp uAdd (dOp uIx (dVar 0) (dC (.int 1))) (dC (.int 1))) (hSub (dVar 0) (dC (.int 1)))) (dSeq (dIfS (Zae (dOp uGe (dVar 3) (dOp uPow (dC (.int 10)) (dC (.int 18))))) (dSeq (dAsg (dOp uDiv (dVar 3) (dVar 1)) (hSub (dVar 0) (dC (.int 2)))) (dRet (dOp uMod (dCB uInt (Zaa (dVar 3) dNil)) (dVar 1)))) Zaf) (dSeq (dAsg (dOp uMod (dCB uInt (Zaa (dOp uAdd (dOp uAdd (dOp uMul (dOp uIx (dVar 0) (dC (.int 3))) (dC (.int 48271))) (dOp uMul (dVar 3) (dC (.int 69621)))) (dOp uMul (dOp uIx (dVar 0) (dC (.int 1))) (dC (.int 7919)))) dNil)) (dC (.int 2147483647))) (hSub (dVar 0) (dC (.int 3)))) (dRet (dOp uMod (dOp uDiv (dCB uInt (Zaa (dOp uIx (dVar 0) (dC (.int 3))) dNil)) (dC (.int 16))) (dVar 1))))))))
def Zdu : DS :=
 dSeq (dAsg (dCB Zww (Zaa (dC (.str [97, 98, 99, 100, 101, 102, 103, 104, 105, 106, 107, 108, 109, 110, 111, 112, 113, 114, 115, 116, 117, 118, 119, 120, 121, 122])) dNil)) (hName 2)) (dSeq (dAsg (dC (.str [])) (hName 3)) (dSeq (dFor (Zjn (Zaa (dOp uAdd (dC (.int 1)) (Zau Zak noX (Zaa (dVar 0) (Zaa (dVar 1) dNil)))) dNil)) (hName 4) (dAsg (dOp uAdd (dVar 3) (dBm tyL uPop (dVar 2) (Zaa (Zau Zak noX (Zaa (dVar 0) (Zaa (dCB uLen (Zaa (dVar 2) dNil)) dNil))) dNil))) (hName 3))) (dRet (dBm tyS Zdn (dC (.str [])) (Zaa (dCB uSrt (Zaa (dVar 3) dNil)) dNil)))))
def Zeu : DS :=
 dRet (dBm tyS Zdn (dC (.str [])) (Zaa (dLc (jStr (dVar 1)) (hName 2) dYes (dOp uIx (dLst (Zaa (dC (.str [])) (Zaa (dVar 2) dNil))) (Zau Zak noX (Zaa (dVar 0) (Zaa (dC (.int 2)) dNil)))) [2]) dNil))
def Zdt : DS :=
 dSeq (dAsg (dBm tyS Zdn (dC (.str [])) (Zaa (dLc (jStr (dVar 0)) (hName 4) (Zae (dOp Zhg (dVar 4) (dVar 1))) (dVar 4) [4]) dNil)) (hName 3)) (dSeq (dAsg (Z98 [(dC (.str [97, 108, 108]), dOp uAdd (dC (.str [45])) (dVar 0)), (dC (.str [108, 101, 116, 116, 101, 114, 115]), dVar 0), (dC (.str [118, 111, 119, 101, 108, 115]), dVar 1), (dC (.str [99, 111, 110, 115, 111, 110, 97, 110, 116, 115]), dVar 3), (dC (.str [106, 111, 105, 110, 116, 115]), dC (.str [45]))]) (hName 5)) (dRet (Z2v (dVar 5) (dVar 2) (dSl uSl (dVar 2) (Zej (dC (.int 1))) (Zej (dUn uNeg (dC (.int 1))))))))
def Zhv : DS :=
 dSeq (dAsg (Zau Zak noX (Zaa (dVar 0) (Zaa (dC (.int 6)) dNil))) (hName 2)) (dSeq (dAsg (dOp uAdd (dC (.str [45])) (dVar 1)) (hName 3)) (dSeq (dAsg (dIf (Zae (dOp uEq (dVar 2) (dC (.int 5)))) (dBm tyS Zdn (dC (.str [])) (Zaa (dLc (jStr (dVar 3)) (hName 5) dYes (dOp uIx (dLst (Zaa (dC (.str [])) (Zaa (dVar 5) dNil))) (Zau Zak noX (Zaa (dVar 0) (Zaa (dC (.int 2)) dNil)))) [5]) dNil)) (dC (.str []))) (hName 4)) (dCut (dIfS (dAnd (Zae (dOp uEq (dVar 2) (dC (.int 5)))) (Zae (dOp uEq (dVar 4) (dC (.str []))))) (dAsg (dOp uIx (dVar 3) (Zau Zak noX (Zaa (dVar 0) (Zaa (dCB uLen (Zaa (dVar 3) dNil)) dNil)))) (hName 4)) Zaf) (dRet (dOp uIx (dLst (Zaa (dC (.str [97, 108, 108])) (Zaa (dC (.str [108, 101, 116, 116, 101, 114, 115])) (Zaa (dC (.str [118, 111, 119, 101, 108, 115])) (Zaa (dC (.str [99, 111, 110, 115, 111, 110, 97, 110, 116, 115])) (Zaa (dC (.str [106, 111, 105, 110, 116, 115])) (Zaa (dOp uAdd (dOp uAdd (dC (.str [91])) (dVar 4)) (dC (.str [93]))) dNil))))))) (dVar 2))))))
def Zht : DS :=
 dSeq (dAsg (dC (.str [])) (hName 3)) (dSeq (dFor (Zjn (Zaa (Zau Zak noX (Zaa (dVar 0) (Zaa (dOp uAdd (dVar 2) (dC (.int 1))) dNil))) dNil)) (hName 4) (dIfS (dAnd (Zae (dOp uNe (dVar 3) (dC (.str [])))) (Zae (dOp uEq (Zau Zak noX (Zaa (dVar 0) (Zaa (dC (.int 4)) dNil))) (dC (.int 0))))) (dAsg (dOp uAdd (dVar 3) (dOp uIx (dVar 3) (dUn uNeg (dC (.int 1))))) (hName 3)) (dAsg (dOp uAdd (dVar 3) (dOp uIx (dVar 1) (Zau Zak noX (Zaa (dVar 0) (Zaa (dCB uLen (Zaa (dVar 1) dNil)) dNil))))) (hName 3)))) (dRet (dVar 3)))
local macro_rules | `(tactic| walk_at "zv") => `(tactic| first | (dsimp only [Hg, Hr, Hh, Hi]; done) | (with_unfolding_all exact rfl))
local macro_rules | `(tactic| walk_at "sz") => `(tactic| (rw [sizeLine_eq]; (try simp only [Qc, Qe, Qh, Qb, Qt]); omega))
local macro_rules | `(tactic| walk_at "ds") => `(tactic| repeat (first
 | with_reducible refine Ycz ?_
 | with_reducible refine Ydg ?_
 | with_reducible refine Ztt (by first | (dsimp only [Hg, Hr, Hh, Hi]; done) | (with_unfolding_all exact rfl)) ?_
 | with_reducible refine k_c ?_
 | with_reducible refine k_op ?_
 | with_reducible refine Z7e ?_
 | with_reducible refine Zyq ?_
 | with_reducible refine Zo7 ?_
 | with_reducible refine Ydc ?_
 | with_reducible refine Z62 ?_
 | with_reducible refine k_bl ?_
 | with_reducible refine iteT ?_
 | with_reducible refine iteF ?_
 | with_reducible refine k_nf ?_
 | with_reducible refine k_nt ?_
 | with_reducible refine Yc0 ?_
 | with_reducible refine k_cb ?_
 | with_reducible refine Z7f ?_
 | with_reducible refine k_not ?_
 | with_reducible refine Ydh ?_
 | with_reducible refine k_or ?_
 | with_reducible refine k_drop ?_
 | with_reducible refine Z66 ?_
 | with_reducible refine k_bm ?_
 | with_reducible refine Yco ?_
 | with_reducible refine k_un ?_
 | with_reducible refine Yc2 ?_
 | with_reducible refine Ydf ?_
 | with_reducible refine k_meth ?_
 | with_reducible refine Ycs ?_
 | with_reducible refine Z61 ?_
 | with_reducible refine Z60 ?_
 | with_reducible refine k_sl ?_
 | with_reducible refine Z65 ?_
 | with_reducible refine Zxo ?_
 | with_reducible refine k_i ?_
 | with_reducible refine k_s ?_
 | with_reducible refine k_l ?_
 | with_reducible refine k_tu ?_
 | with_reducible refine Ycq ?_
 | with_reducible refine Yc4 ?_
 | with_reducible refine k_pu (by with_unfolding_all exact rfl) (by (rw [sizeLine_eq]; (try simp only [Qc, Qe, Qh, Qb, Qt]); omega)) ?_
 | with_reducible refine Z69 ?_
 | with_reducible refine k_lc ?_
 | with_reducible refine Z1x ?_
 | with_reducible refine Yde ?_
 | with_reducible refine Yc6 ?_
 | with_reducible refine Z7d ?_
 | with_reducible refine Z7c ?_
 | with_reducible refine Z63 ?_
 | with_reducible refine k_if ?_
 | with_reducible refine Z7i ?_
 | with_reducible refine Yf2 ?_
 | with_reducible refine Yc1 ?_
 | with_reducible refine Z18 ?_
 | with_reducible refine Z1z ?_
 | with_reducible refine Ycw ?_
 | with_reducible refine Ydd ?_
 | with_reducible refine Zxr _ ?_
 | with_reducible refine Z68 ?_
 | with_reducible refine Yfz ?_
 | with_reducible refine Z19 ?_
 | with_reducible refine Z46 ?_
 | with_reducible refine k_xf ?_
 | with_reducible refine k_sub ?_
 | with_reducible refine k_fs ?_
 | with_reducible refine k_js ?_
 | with_reducible refine Yc7 ?_
 | with_reducible refine Yga ?_
 | with_reducible refine Yf1 ?_
 | with_reducible refine Z42 ?_
 | with_reducible refine Z4v ?_
 | with_reducible refine Zff ?_
 | with_reducible refine Ztv ?_
 | with_reducible refine Zka (by rfl) ?_
 | with_reducible refine Z7j ?_
 | with_reducible refine Ycu ?_
 | with_reducible refine k_lt ?_
 | with_reducible refine k_le ?_
 | with_reducible refine k_gt ?_
 | with_reducible refine k_ge ?_
 | with_reducible refine k_in ?_
 | with_reducible refine Z9i ?_
 | with_reducible refine Yc8 ?_
 | with_reducible refine Zxq ?_
 | with_reducible refine Yf6 ?_
 | with_reducible refine Z44 ?_
 | with_reducible refine Yf7 ?_
 | with_reducible refine Yc9 ?_
 | with_reducible refine Z7g ?_
 | with_reducible refine Yc3 ?_
 | with_reducible refine Ygb ?_
 | with_reducible refine k_eq (by with_unfolding_all exact rfl) ?_
 | with_reducible refine k_ne (by with_unfolding_all exact rfl) ?_
 | with_reducible refine Z16 (by with_unfolding_all exact rfl) ?_
 | with_reducible refine Zei (by with_unfolding_all exact rfl) ?_
 | with_reducible refine Ycy ?_
 | with_reducible refine Z7b ?_
 | with_reducible refine Z7a ?_
 | with_reducible refine Z11 ?_
 | with_reducible refine Z9l ?_
 | with_reducible refine k_sz (by (rw [sizeLine_eq]; (try simp only [Qc, Qe, Qh, Qb, Qt]); omega)) ?_
 | with_reducible refine Zxp (by (rw [sizeLine_eq]; (try simp only [Qc, Qe, Qh, Qb, Qt]); omega)) ?_
 | with_reducible refine Ze1 (by (rw [sizeLine_eq]; (try simp only [Qc, Qe, Qh, Qb, Qt]); omega)) ?_
 | with_reducible refine Z4y (by (rw [sizeLine_eq]; (try simp only [Qc, Qe, Qh, Qb, Qt]); omega)) ?_))
theorem Zaz {M : Mem} {ls vw : List Nat} : obOf M (.v (alph ls vw)) = some (.Alphabet, [vS ls, vS vw, vS (cons ls vw), vS (45 :: ls)]) := rfl
theorem Zi1 (ds : List D) (M : Mem) (Q : DQ) (E : DX) (h : Zbn ds M Q E) : Zbi { nx := fun _ M' => Zab M Q (.v .non) M', rt := Zab M Q } (Zac 1 ds) M := by
 obtain ⟨z, rfl, hz, q⟩ := h
 show Zbi _ [some (vS z)] M
 unfold Zbi
 walk_at "ds"
 refine ⟨z, rfl, hz, fun n hn => ?_⟩
 walk_at "ds"
 rw [hn]
 exact Zad q
theorem Zal {M : Mem} {d : D} {k : Cn} {ys : List D} {f : Fd} {y : D} {p : D → Prop} (e : obOf M d = some (k, ys)) (e2 : ys[k.ix f]? = some y) (h : p y) : ∃ k ys y, obOf M d = some (k, ys) ∧ ys[k.ix f]? = some y ∧ p y := ⟨k, ys, y, e, e2, h⟩
theorem Zgi (ds : List D) (M : Mem) (Q : DQ) (E : DX) (h : Zan ds M Q E) : Zaw { nx := fun _ M' => Zab M Q (.v .non) M', rt := Zab M Q } (Zac 3 ds) M := by
 obtain ⟨ls, vw, z, rfl, q⟩ := h
 show Zaw _ [some (.v (alph ls vw)), some (vS z), none] M
 unfold Zaw
 walk_at "ds"
 have key : ∀ (y : List Nat) (v : Option D) (N : DSt → Mem → Prop), (isW ls y = true → ∀ v, N [some (.v (alph ls vw)), some (vS z), v] M) → (isW ls y = false → Zab M Q (vB false) M) →
   Zgk (hName 2) (dIfS (Zae (dOp Zhg (dVar 2) (dFld (dVar 0) .signs))) (dRet (dC (.bl false))) Zaf) { nx := N, rt := Zab M Q } (y.map fun c => vS [c]) [some (.v (alph ls vw)), some (vS z), v] M := by
  intro y
  induction y with
  | nil => exact fun v N h1 h2 => h1 rfl v
  | cons c y ih =>
   intro v N h1 h2
   refine Ztm ?_
   walk_at "ds"
   refine Zal Zaz (by with_unfolding_all exact rfl) ?_
   walk_at "ds"
   by_cases hc : c ∈ 45 :: ls
   ·rw [decide_eq_true hc]
    refine iteF ?_
    walk_at "ds"
    have e : isW ls (c :: y) = isW ls y := by
     unfold isW
     rw [Gq, decide_eq_true hc, La]
    exact ih _ N (fun h => h1 (by rw [e]; exact h)) fun h => h2 (by rw [e]; exact h)
   ·rw [decide_eq_false hc]
    refine iteT ?_
    walk_at "ds"
    refine h2 ?_
    unfold isW
    rw [Gq, decide_eq_false hc, Bool.false_and]
 refine key z _ _ (fun h v => ?_) fun h => Zad (by rw [h] at q; exact q)
 rw [h] at q
 walk_at "ds"
 exact Zad q
theorem k_m {M : Mem} {d : D} {k : Cn} {ys : List D} {sp : DSp} {gg : Cn → Option DSp} {p : DSp → Prop} (e : obOf M d = some (k, ys)) (e2 : gg k = some sp) (h : p sp) : ∃ k ys sp, obOf M d = some (k, ys) ∧ gg k = some sp ∧ p sp := ⟨k, ys, sp, e, e2, h⟩
theorem Zo6 : ∀ {l m : List Nat}, l.Nodup → (∀ c ∈ l, c ∈ m) → l.length ≤ m.length
 | [], _, _, _ => Qr _
 | x :: t, m, nd, sub => by
  obtain ⟨hx, nt⟩ := Hf.mp nd
  have p := Lh (sub x Qo)
  have l1 := p.length_eq
  simp only [Qe] at l1 ⊢
  have ih := Zo6 (l := t) (m := m.erase x) nt (fun y hy => (Li (fun e => hx (by rw [← e]; exact hy))).mpr (sub y (Qk _ hy)))
  omega
theorem Bg.lt {M : Mem} {b : Nat} (h : Bg M b) : b < M.length := by
 obtain ⟨c, e, _⟩ := h
 exact (Qa.mp e).1
theorem Bd.refl {M : Mem} {b : Nat} (h : Bg M b) : Bd b M M := by
 obtain ⟨c, e, hc⟩ := h
 refine ⟨c, hc, ?_⟩
 obtain ⟨h1, h2⟩ := Qa.mp e
 rw [← h2, List.set_getElem_self]
theorem Bd.trans {M M1 M2 : Mem} {b : Nat} (h : Bd b M M1) (g : Bd b M1 M2) : Bd b M M2 := by
 obtain ⟨c, hc, rfl⟩ := h
 obtain ⟨d, hd, rfl⟩ := g
 exact ⟨d, hd, by rw [Q2]⟩
theorem Bd.len {M M1 : Mem} {b : Nat} (h : Bd b M M1) : M1.length = M.length := by
 obtain ⟨c, hc, rfl⟩ := h
 simp
theorem Bd.bg {M M1 : Mem} {b : Nat} (h : Bd b M M1) (g : Bg M b) : Bg M1 b := by
 obtain ⟨c, hc, rfl⟩ := h
 exact ⟨c, Qs g.lt, hc⟩
theorem Bd.get {M M1 : Mem} {b j : Nat} (h : Bd b M M1) (ne : j ≠ b) : M1[j]? = M[j]? := by
 obtain ⟨c, hc, rfl⟩ := h
 rw [Q4 (Ne.symm ne)]
theorem Bd.app {M L M' : Mem} {b : Nat} (hb : b < M.length) (h : Bd b (M ++ L) M') : ∃ M1, M' = M1 ++ L ∧ Bd b M M1 := by
 obtain ⟨c, hc, rfl⟩ := h
 exact ⟨M.set b (some c), by rw [List.set_append_left _ _ hb], c, hc, rfl⟩
theorem Bg.app {M L : Mem} {b : Nat} (h : Bg M b) : Bg (M ++ L) b := by
 obtain ⟨c, e, hc⟩ := h
 exact ⟨c, by rw [Qy (Qa.mp e).1]; exact e, hc⟩
theorem x_bd {M M' : Mem} {Q : DQ} {b : Nat} {x : PV} (h : Bd b M M') (q : Q (.v x) M') : Zab M Q (.v x) M' := by
 obtain ⟨c, hc, rfl⟩ := h
 exact Yer hc.low q
theorem Z3v {M M' L : Mem} {Q : DQ} {b : Nat} {x : PV} (h : Bd b M M') (q : Q (.v x) M') : Zab M Q (.v x) (M' ++ L) := by
 have hl := h.len
 obtain ⟨c, hc, rfl⟩ := h
 refine ⟨(fun _ e => by cases e), (Exit.set (i := b) hc.low).trans hl (Exit.app _ L), ?_⟩
 rw [← hl, Hv rfl]
 exact q
theorem Zee {M : Mem} {Q : DQ} {X : DX} {b : Nat} {n : Int} (hb : Bg M b) (h0 : 0 < n) (h1 : n < 1152921504606846976) (h : ∀ (r : Nat) M', (r : Int) < n → Bd b M M' → Bg M' b → Q (vI r) M') : Zak [.cell b, vI n] M Q X :=
 ⟨b, n, rfl, hb, h0, h1, fun r M' hr d => h r M' hr d (d.bg hb)⟩
theorem Z03 (ds : List D) (M : Mem) (Q : DQ) (E : DX) (h : Zm5 ds M Q E) : Zmf { nx := fun _ M' => Q (.v .non) M', rt := Q } (Zac 1 ds) M := by
 obtain ⟨ns, rfl, q⟩ := h
 show Zmf _ [some (.v (.scr ns))] M
 unfold Zmf
 walk_at "ds"
 refine Yf0 ?_
 walk_at "ds"
 exact q _ ⟨_, 0, 0, 1, rfl, by decide⟩
theorem Zyl (ds : List D) (M : Mem) (Q : DQ) (E : DX) (h : Zak ds M Q E) : Zhu { nx := fun _ M' => Zab M Q (.v .non) M', rt := Zab M Q } (Zac 4 ds) M := by
 obtain ⟨b, n, rfl, ⟨c, hb, ns, pos, rest, seed, rfl, h0⟩, n0, n1, k⟩ := h
 show Zhu _ [some (.cell b), some (vI n), none, none] M
 unfold Zhu
 have hlt := (Qa.mp hb).1
 have fin : ∀ (x pos' rest' seed' : Int), 0 ≤ pos' → Zab M Q (vI (x % n)) (M.set b (some (.lst [vL (ns.map PV.int), vI pos', vI rest', vI seed']))) := fun x pos' rest' seed' hp => by
  obtain ⟨r, hr⟩ : ∃ r : Nat, x % n = (r : Int) := ⟨(x % n).toNat, by have := Int.emod_nonneg x (b := n) (by omega); omega⟩
  have hB : Bd b M (M.set b (some (.lst [vL (ns.map PV.int), vI pos', vI rest', vI seed']))) := ⟨_, ⟨ns, pos', rest', seed', rfl, hp⟩, rfl⟩
  rw [hr]
  exact x_bd hB (k r _ (by rw [← hr]; exact Int.emod_lt_of_pos _ n0) hB)
 have gs : ∀ x : Cell, (M.set b (some x))[b]? = some (some x) := fun x => Qs hlt
 walk_at "ds"
 refine Zk7 hb rfl ?_
 walk_at "ds"
 refine ite2 (fun _ => ?_) (fun _ => ?_)
 ·walk_at "ds"
  refine Zk7 hb rfl ?_
  walk_at "ds"
  refine ⟨_, _, rfl, rfl, wide_div (b := 60) n0 (by omega) (by decide) (by decide), ?_⟩
  walk_at "ds"
  refine ⟨b, _, _, 2, rfl, rfl, hb, rfl, ?_⟩
  walk_at "ds"
  exact ⟨_, _, rfl, rfl, n0, fin _ _ _ _ h0⟩
 ·walk_at "ds"
  refine Zq9 ?_
  walk_at "ds"
  refine Zk7 hb rfl ?_
  walk_at "ds"
  refine Zk7 hb rfl ?_
  walk_at "ds"
  have tail : ∀ cell : Int, dSeq (dAsg (dOp uAdd (dOp uIx (dVar 0) (dC (.int 1))) (dC (.int 1))) (hSub (dVar 0) (dC (.int 1)))) (dSeq (dIfS (Zae (dOp uGe (dVar 3) (dOp uPow (dC (.int 10)) (dC (.int 18)))))
    (dSeq (dAsg (dOp uDiv (dVar 3) (dVar 1)) (hSub (dVar 0) (dC (.int 2)))) (dRet (dOp uMod (dCB uInt (Zaa (dVar 3) dNil)) (dVar 1)))) Zaf)
    (dSeq (dAsg (dOp uMod (dCB uInt (Zaa (dOp uAdd (dOp uAdd (dOp uMul (dOp uIx (dVar 0) (dC (.int 3))) (dC (.int 48271))) (dOp uMul (dVar 3) (dC (.int 69621)))) (dOp uMul (dOp uIx (dVar 0) (dC (.int 1))) (dC (.int 7919)))) dNil)) (dC (.int 2147483647))) (hSub (dVar 0) (dC (.int 3))))
    (dRet (dOp uMod (dOp uDiv (dCB uInt (Zaa (dOp uIx (dVar 0) (dC (.int 3))) dNil)) (dC (.int 16))) (dVar 1))))) { nx := fun _ M' => Zab M Q (.v .non) M', rt := Zab M Q } [some (.cell b), some (vI n), none, some (vI cell)] M := by
   intro cell
   walk_at "ds"
   refine Zk7 hb rfl ?_
   walk_at "ds"
   refine ⟨b, _, _, 1, rfl, rfl, hb, rfl, ?_⟩
   walk_at "ds"
   refine ⟨_, _, rfl, rfl, ⟨by decide, by decide, by decide⟩, ?_⟩
   walk_at "ds"
   refine ite2 (fun _ => ?_) (fun _ => ?_)
   ·walk_at "ds"
    refine ⟨_, _, rfl, rfl, wide_div (b := 60) n0 (by omega) (by decide) (by decide), ?_⟩
    walk_at "ds"
    refine ⟨b, _, _, 2, rfl, rfl, gs _, rfl, ?_⟩
    walk_at "ds"
    refine ⟨_, _, rfl, rfl, n0, ?_⟩
    rw [Q2]
    exact fin _ _ _ _ (by omega)
   ·walk_at "ds"
    refine Zk7 (gs _) rfl ?_
    walk_at "ds"
    refine Or.inl ⟨_, _, rfl, rfl, Or.inr ⟨by decide, by decide⟩, ?_⟩
    walk_at "ds"
    refine Or.inl ⟨_, _, rfl, rfl, Or.inr ⟨by decide, by decide⟩, ?_⟩
    walk_at "ds"
    refine Zk7 (gs _) rfl ?_
    walk_at "ds"
    refine Or.inl ⟨_, _, rfl, rfl, Or.inr ⟨by decide, by decide⟩, ?_⟩
    walk_at "ds"
    refine ⟨_, _, rfl, rfl, by decide, ?_⟩
    walk_at "ds"
    refine ⟨b, _, _, 3, rfl, rfl, gs _, rfl, ?_⟩
    walk_at "ds"
    rw [Q2]
    refine Zk7 (gs _) rfl ?_
    walk_at "ds"
    refine ⟨_, _, rfl, rfl, wide_div (b := 5) (by decide) (by decide) (by decide) (by decide), ?_⟩
    walk_at "ds"
    refine ⟨_, _, rfl, rfl, n0, fin _ _ _ _ (by omega)⟩
  refine ite2 (fun hlt' => ?_) (fun _ => ?_)
  ·walk_at "ds"
   refine Zk7 hb rfl ?_
   walk_at "ds"
   refine Zk7 hb rfl ?_
   have hl := of_decide_eq_true hlt'
   rw [Qb] at hl
   obtain ⟨j, rfl⟩ : ∃ j : Nat, pos = j := ⟨pos.toNat, by omega⟩
   have hj : j < ns.length := by omega
   refine Zei (y := .int ns[j]) (atI_nat (by rw [Qn, Qf hj]; rfl)) ?_
   exact tail ns[j]
  ·exact tail 0
theorem Zlj {i : Nat} {tt : DT} {ds : DSt} {M : Mem} {P : List PV → Mem → Prop} {z : List Nat} (keep : Nat → Bool) (hi : i < ds.length) (hz : z.length ≤ 1000000) (ht : ∀ (c : Nat) (QB : Bool → Mem → Prop), c ∈ z → QB (keep c) M → tt (ds.set i (some (vS [c]))) M QB) (h : P (sgn (z.filter keep)) M) :
  Zec (hName i) tt (dVar i) ds P (z.map fun c => vS [c]) [] M := by
 have key : ∀ (y : List Nat) (acc : List PV), (∀ c ∈ y, c ∈ z) → acc.length + y.length ≤ 1000000 → P (acc ++ sgn (y.filter keep)) M → Zec (hName i) tt (dVar i) ds P (y.map fun c => vS [c]) acc M := by
  intro y
  induction y with
  | nil => exact fun acc _ _ h => by rw [List.filter_nil, sgn, Gb, Qx] at h; exact h
  | cons c y ih =>
   intro acc hs hl h
   refine ht c _ (hs c Qo) ?_
   rw [List.filter_cons] at h
   rw [Qe] at hl
   cases hk : keep c with
   | true =>
    rw [hk, if_pos rfl] at h
    refine iteT ⟨_, Qs hi, .str [c], rfl, by rw [sizeLine_eq]; omega, ih _ (fun d m => hs d (Qk _ m)) (by rw [Qc]; simp only [Qe, Qh]; omega) ?_⟩
    rw [Q6]
    exact h
   | false =>
    rw [hk, if_neg (by decide)] at h
    exact iteF (ih _ (fun d m => hs d (Qk _ m)) (by omega) h)
 exact key z [] (fun _ m => m) (by simp only [Qh]; omega) h
theorem Zuf {i b : Nat} {ds : DSt} {M : Mem} {P : List PV → Mem → Prop} {z : List Nat} (hi : i < ds.length) (h0 : ds[0]? = some (some (.cell b))) (hi0 : i ≠ 0) (hb : Bg M b) (hz : z.length ≤ 1000000)
  (h : ∀ (ys : List (List Nat)) M', ys.flatten.Sublist z → (ys.map List.length).sum ≤ z.length → Bd b M M' → P (ys.map PV.str) M') :
  Zec (hName i) dYes (dOp uIx (dLst (Zaa (dC (.str [])) (Zaa (dVar i) dNil))) (Zau Zak noX (Zaa (dVar 0) (Zaa (dC (.int 2)) dNil)))) ds P (z.map fun c => vS [c]) [] M := by
 have key : ∀ (y : List Nat) (acc : List (List Nat)) (x : List Nat) (M1 : Mem), acc.flatten.Sublist x → (acc.map List.length).sum ≤ x.length → acc.length + y.length ≤ 1000000 → x ++ y = z → Bd b M M1 → Zec (hName i) dYes (dOp uIx (dLst (Zaa (dC (.str [])) (Zaa (dVar i) dNil))) (Zau Zak noX (Zaa (dVar 0) (Zaa (dC (.int 2)) dNil)))) ds P (y.map fun c => vS [c]) (acc.map PV.str) M1 := by
  intro y
  induction y with
  | nil =>
   intro acc x M1 hs hl _ e d
   rw [Qx] at e
   subst e
   exact h acc M1 hs hl d
  | cons c y ih =>
   intro acc x M1 hs hl hn e d
   rw [Qe] at hn
   show hName i (vS [c]) ds M1 _
   walk_at "ds"
   refine Ztt (d := vS [c]) (Qs hi) ?_
   walk_at "ds"
   refine Ztt (d := .cell b) (by rw [Q4 hi0]; exact h0) ?_
   walk_at "ds"
   refine Zee (d.bg hb) (by decide) (by decide) fun r M2 hr d2 hb2 => ?_
   have fin : ∀ w : List Nat, w.Sublist [c] → ∃ z, D.v (.str w) = .v z ∧ (acc.map PV.str).length < sizeLine ∧ Zec (hName i) dYes (dOp uIx (dLst (Zaa (dC (.str [])) (Zaa (dVar i) dNil))) (Zau Zak noX (Zaa (dVar 0) (Zaa (dC (.int 2)) dNil)))) ds P (y.map fun c => vS [c]) (acc.map PV.str ++ [z]) M2 := fun w hw => by
    refine ⟨.str w, rfl, by rw [Qb, sizeLine_eq]; omega, ?_⟩
    have e2 : acc.map PV.str ++ [PV.str w] = (acc ++ [w]).map PV.str := by rw [Qv]; rfl
    rw [e2]
    refine ih (acc ++ [w]) (x ++ [c]) M2 ?_ ?_ (by rw [Qc]; simp only [Qe, Qh]; omega) (by rw [Q6]; exact e) (d.trans d2)
    ·rw [List.flatten_append]
     refine hs.append ?_
     simpa using hw
    ·have := hw.length_le
     rw [Qv, Lk, Qc]
     simp only [Q3, Gb, Hz, Ll, Qe, Qh] at this ⊢
     omega
   rcases (show r = 0 ∨ r = 1 by omega) with rfl | rfl
   ·exact Zei rfl (fin [] (List.nil_sublist _))
   ·exact Zei rfl (fin [c] (List.Sublist.refl _))
 exact key z [] [] M (List.Sublist.refl _) (Qu _) (by simp only [Qh]; omega) rfl (Bd.refl hb)
theorem jn {M : Mem} {Q : DQ} {ys : List (List Nat)} (hl : (ys.map List.length).sum ≤ 1000000) (h : Q (vS ys.flatten) M) : Zdn (vS []) [vL (ys.map PV.str)] M Q :=
 Zm0 rfl (by simp only [Qh, Nat.mul_zero]; omega) (by rw [Zlh]; exact h)
theorem Zs5 (ds : List D) (M : Mem) (Q : DQ) (E : DX) (h : Ze2 ds M Q E) : Zeu { nx := fun _ M' => Zab M Q (.v .non) M', rt := Zab M Q } (Zac 3 ds) M := by
 obtain ⟨b, ls, rfl, hb, hl, k⟩ := h
 show Zeu _ [some (.cell b), some (vS ls), none] M
 unfold Zeu
 walk_at "ds"
 refine Zuf (by show 2 < 3; decide) rfl (by decide) hb (by omega) fun ys M' hs hn d => ?_
 exact jn (by omega) (x_bd d (k _ M' hs d))
theorem Zdr (ds : List D) (M : Mem) (Q : DQ) (E : DX) (h : Zag ds M Q E) : Zaj (Zbf M E) { nx := fun _ M' => Zab M Q (.v .non) M', rt := Zab M Q } (Zac 3 ds) M := by
 obtain ⟨ls, vw, z, rfl, hz, kQ, kE⟩ := h
 show Zaj (Zbf M E) _ [some (.v (alph ls vw)), some (vS z), none] M
 unfold Zaj
 have raise : ¬ okS ls z → ∃ ps, Za2 [vS txS] = some ps ∧ ps.length = Cn.BadStage.flds.length ∧ Zbf M E ⟨.BadStage, ps⟩ M := fun no => ⟨[.str txS], rfl, rfl, Zc6 (kE no)⟩
 have il : (inner z).length ≤ 60 := Hb (Yaf z _ _).length_le hz
 have ei : cut z (some 1) (some (-1)) = inner z := rfl
 walk_at "ds"
 rw [ei]
 walk_at "ds"
 refine ite2 (fun h => ?_) (fun h => ?_)
 ·refine iteT ?_
  walk_at "ds"
  refine raise fun o => ?_
  have := o.1
  have := of_decide_eq_true h
  omega
 have h3 : 3 ≤ z.length := by
  have : ¬ ((z.length : Int) < 3) := fun q => h (decide_eq_true q)
  omega
 obtain ⟨c, hc⟩ := Zr0 (z := z) (i := 0) (by omega) (by omega)
 obtain ⟨d, hd⟩ := Zr0 (z := z) (i := -1) (by omega) (by omega)
 walk_at "ds"
 refine Zrb (by walk_at "sz") hc ?_
 walk_at "ds"
 by_cases c91 : c = 91
 case neg =>
  have : ¬ ([c] = [91]) := fun e => c91 (by simpa using e)
  rw [decide_eq_false this]
  refine iteT ?_
  walk_at "ds"
  refine raise fun o => ?_
  have e := o.2.1
  rw [hc] at e
  cases e
  exact c91 rfl
 subst c91
 refine iteF ?_
 walk_at "ds"
 refine Zrb (by walk_at "sz") hd ?_
 walk_at "ds"
 by_cases c93 : d = 93
 case neg =>
  have : ¬ ([d] = [93]) := fun e => c93 (by simpa using e)
  rw [decide_eq_false this]
  refine iteT ?_
  walk_at "ds"
  refine raise fun o => ?_
  have e := o.2.2.1
  rw [hd] at e
  cases e
  exact c93 rfl
 subst c93
 refine iteF ?_
 walk_at "ds"
 refine k_m Zaz rfl ?_
 walk_at "ds"
 refine ⟨ls, vw, inner z, rfl, ?_⟩
 walk_at "ds"
 by_cases hw : isW ls (inner z) = true
 case neg =>
  rw [show isW ls (inner z) = false by simpa using hw]
  refine iteT ?_
  walk_at "ds"
  exact raise fun o => hw o.2.2.2.1
 rw [hw]
 refine iteF ?_
 walk_at "ds"
 refine ⟨inner z, rfl, by omega, fun ys hy hm => ?_⟩
 have hlen : ys.length ≤ 60 := Hb (Zo6 (Zh1 hy) fun c hc => (hm c).mp hc) il
 walk_at "ds"
 refine Zjm (by omega) ?_
 walk_at "ds"
 by_cases hs : ys = inner z
 ·rw [decide_eq_true hs]
  refine iteF ?_
  walk_at "ds"
  exact Zad (kQ ⟨h3, hc, hd, hw, hs ▸ hy⟩)
 ·rw [decide_eq_false hs]
  refine iteT ?_
  walk_at "ds"
  exact raise fun o => hs (Yek hy o.2.2.2.2 hm)
theorem Zgh (ds : List D) (M : Mem) (Q : DQ) (E : DX) (h : Zam ds M Q E) : Zav (Zbf M E) { nx := fun _ M' => Zab M Q (.v .non) M', rt := Zab M Q } (Zac 2 ds) M := by
 obtain ⟨ls, vw, z, rfl, hz, kQ, kE⟩ := h
 show Zav (Zbf M E) _ [some (.v (alph ls vw)), some (vS z)] M
 unfold Zav
 unfold okN mem at kQ
 walk_at "ds"
 refine ite2 (fun h => ?_) (fun h => ?_)
 ·have h' := of_decide_eq_true h
  walk_at "ds"
  refine Zal Zaz (by with_unfolding_all exact rfl) (Zad ?_)
  have := kQ (Or.inl h')
  rw [if_pos h'] at this
  exact this
 have h1 : ¬ z = txA := fun q => h (decide_eq_true q)
 walk_at "ds"
 refine ite2 (fun h => ?_) (fun h => ?_)
 ·have h' := of_decide_eq_true h
  walk_at "ds"
  refine Zal Zaz (by with_unfolding_all exact rfl) (Zad ?_)
  have := kQ (Or.inr (Or.inl h'))
  rw [if_neg h1, if_pos h'] at this
  exact this
 have h2 : ¬ z = txL := fun q => h (decide_eq_true q)
 walk_at "ds"
 refine ite2 (fun h => ?_) (fun h => ?_)
 ·have h' := of_decide_eq_true h
  walk_at "ds"
  refine Zal Zaz (by with_unfolding_all exact rfl) (Zad ?_)
  have := kQ (Or.inr (Or.inr (Or.inl h')))
  rw [if_neg h1, if_neg h2, if_pos h'] at this
  exact this
 have h3 : ¬ z = txV := fun q => h (decide_eq_true q)
 walk_at "ds"
 refine ite2 (fun h => ?_) (fun h => ?_)
 ·have h' := of_decide_eq_true h
  walk_at "ds"
  refine Zal Zaz (by with_unfolding_all exact rfl) (Zad ?_)
  have := kQ (Or.inr (Or.inr (Or.inr (Or.inl h'))))
  rw [if_neg h1, if_neg h2, if_neg h3, if_pos h'] at this
  exact this
 have h4 : ¬ z = txC := fun q => h (decide_eq_true q)
 walk_at "ds"
 refine ite2 (fun h => ?_) (fun h => ?_)
 ·have h' := of_decide_eq_true h
  walk_at "ds"
  refine Zad ?_
  have := kQ (Or.inr (Or.inr (Or.inr (Or.inr (Or.inl h')))))
  rw [if_neg h1, if_neg h2, if_neg h3, if_neg h4, if_pos h'] at this
  exact this
 have h5 : ¬ z = txJ := fun q => h (decide_eq_true q)
 walk_at "ds"
 refine k_m Zaz rfl ?_
 walk_at "ds"
 refine ⟨ls, vw, z, rfl, hz, fun o => Zad ?_, fun no => Zc6 (kE ?_)⟩
 ·have := kQ (Or.inr (Or.inr (Or.inr (Or.inr (Or.inr o)))))
  rw [if_neg h1, if_neg h2, if_neg h3, if_neg h4, if_neg h5] at this
  exact this
 ·rintro (o | o | o | o | o | o)
  ·exact h1 o
  ·exact h2 o
  ·exact h3 o
  ·exact h4 o
  ·exact h5 o
  ·exact no o
theorem Zt3 {ls z : List Nat} (h : ∀ c ∈ ls, c ∈ z) : (sgn (ls.filter fun c => !decide (c ∈ z))).isEmpty = true := by
 have : (ls.filter fun c => !decide (c ∈ z)) = [] := Tb.mpr fun c hc => by simp [h c hc]
 rw [this]
 rfl
theorem Zt2 {ls z : List Nat} (h : ¬ ∀ c ∈ ls, c ∈ z) : (sgn (ls.filter fun c => !decide (c ∈ z))).isEmpty = false := by
 cases q : ls.filter fun c => !decide (c ∈ z) with
 | nil =>
  refine absurd (fun c hc => ?_) h
  have := Tb.mp q c hc
  simpa using this
 | cons a t => rfl
theorem k_put {M : Mem} {n : Nat} {k : Cn} {ys : List D} {f : Fd} {y : D} {P : Mem → Prop} (e : M[n]? = some (some (.obj k ys))) (hi : k.ix f = ys.length) (hf : k.ix f < k.flds.length) (h : P (M.set n (some (.obj k (ys ++ [y]))))) :
  ∃ i k' ys', D.cell n = .cell i ∧ M[i]? = some (some (.obj k' ys')) ∧ k'.ix f ≤ ys'.length ∧ k'.ix f < k'.flds.length ∧ P (M.set i (some (.obj k' (setF ys' (k'.ix f) y)))) := by
 refine ⟨n, k, ys, rfl, e, Nat.le_of_eq hi, hf, ?_⟩
 unfold setF
 rw [if_neg (by omega)]
 exact h
theorem Zi5 (ds : List D) (M : Mem) (Q : DQ) (E : DX) (h : Zbt ds M Q E) : Zbm E { nx := fun _ M' => Q (.v .non) M', rt := Q } (Zac 5 ds) M := by
 obtain ⟨n, ls, vw, rfl, hM, l1, l2, kL, kV, kQ⟩ := h
 show Zbm E _ [some (.cell n), some (vS ls), some (vS vw), none, none] M
 unfold Zbm
 have hn := (Qa.mp hM).1
 have raise : ∀ x : List Nat, E ⟨.BadAlphabet, [.str x]⟩ M → ∃ ps, Za2 [vS x] = some ps ∧ ps.length = Cn.BadAlphabet.flds.length ∧ E ⟨.BadAlphabet, ps⟩ M := fun x h => ⟨[.str x], rfl, rfl, h⟩
 have gs : ∀ x : Cell, (M.set n (some x))[n]? = some (some x) := fun x => Qs hn
 walk_at "ds"
 refine Zlj (fun c => !decide (c ∈ small)) (by show 4 < 5; decide) (by omega) (fun c QB hc q => ?_) ?_
 ·walk_at "ds"
  exact q
 walk_at "ds"
 by_cases a1 : ∀ c ∈ ls, c ∈ small
 case neg =>
  rw [Zt2 a1]
  refine iteT ?_
  walk_at "ds"
  exact raise _ (kL fun h => a1 h.1)
 rw [Zt3 a1]
 refine iteF ?_
 walk_at "ds"
 by_cases a2 : (1 : Int) ≤ ls.length
 case neg =>
  rw [decide_eq_false a2]
  refine iteF ?_
  walk_at "ds"
  exact raise _ (kL fun h => a2 (by have := h.2.1; omega))
 rw [decide_eq_true a2]
 refine iteT ?_
 walk_at "ds"
 by_cases a3 : (ls.length : Int) ≤ 8
 case neg =>
  rw [decide_eq_false a3]
  refine iteT ?_
  walk_at "ds"
  exact raise _ (kL fun h => a3 (by have := h.2.2.1; omega))
 rw [decide_eq_true a3]
 refine iteF ?_
 walk_at "ds"
 refine ⟨ls, rfl, by omega, ?_⟩
 walk_at "ds"
 by_cases a4 : ls.Nodup
 case neg =>
  rw [decide_eq_false a4]
  refine iteT ?_
  walk_at "ds"
  exact raise _ (kL fun h => a4 h.2.2.2)
 rw [decide_eq_true a4]
 refine iteF ?_
 have okl : okL ls := ⟨a1, by omega, by omega, a4⟩
 walk_at "ds"
 refine Zlj (fun c => !decide (c ∈ ls)) (by show 4 < 5; decide) (by omega) (fun c QB hc q => ?_) ?_
 ·walk_at "ds"
  exact q
 walk_at "ds"
 by_cases b1 : ∀ c ∈ vw, c ∈ ls
 case neg =>
  rw [Zt2 b1]
  refine iteT ?_
  walk_at "ds"
  exact raise _ (kV okl fun h => b1 h.1)
 rw [Zt3 b1]
 refine iteF ?_
 walk_at "ds"
 refine ⟨vw, rfl, by omega, ?_⟩
 walk_at "ds"
 by_cases b2 : vw.Nodup
 case neg =>
  rw [decide_eq_false b2]
  refine iteT ?_
  walk_at "ds"
  exact raise _ (kV okl fun h => b2 h.2)
 rw [decide_eq_true b2]
 refine iteF ?_
 walk_at "ds"
 refine Z4w (by omega) ?_
 walk_at "ds"
 refine Zjm (by rw [Zfa]; omega) ?_
 walk_at "ds"
 refine k_put hM (by with_unfolding_all exact rfl) (by decide) ?_
 walk_at "ds"
 refine Z4w (by omega) ?_
 walk_at "ds"
 refine Zjm (by rw [Zfa]; omega) ?_
 walk_at "ds"
 refine k_put (gs _) (by with_unfolding_all exact rfl) (by decide) ?_
 rw [Q2]
 walk_at "ds"
 refine Z4w (by omega) ?_
 walk_at "ds"
 have e : (sgn (srt ls)).map D.v = (srt ls).map fun c => vS [c] := by rw [Qq]; rfl
 rw [e]
 refine Zlj (fun c => !decide (c ∈ vw)) (by show 4 < 5; decide) (by rw [Zfa]; omega) (fun c QB hc q => ?_) ?_
 ·walk_at "ds"
  exact q
 walk_at "ds"
 refine Zjm (z := cons (srt ls) vw) (by have := Zx6 (srt ls) vw; rw [Zfa] at this; omega) ?_
 walk_at "ds"
 refine k_put (gs _) (by with_unfolding_all exact rfl) (by decide) ?_
 rw [Q2]
 walk_at "ds"
 refine Zal (k := .Alphabet) (ys := [vS (srt ls), vS (srt vw), vS (cons (srt ls) vw)]) (by show (match (M.set n _)[n]? with | some (some (Cell.obj c ds)) => some (c, ds) | _ => none) = _; rw [gs]; rfl) (by with_unfolding_all exact rfl) ?_
 refine Ze1 (by rw [Zfa]; walk_at "sz") ?_
 walk_at "ds"
 refine k_put (gs _) (by with_unfolding_all exact rfl) (by decide) ?_
 rw [Q2]
 exact kQ okl ⟨b1, b2⟩
theorem Zt0 {M1 : Mem} {n : Nat} {x : Option Cell} (hl : M1.length = n) : (M1 ++ [x])[n]? = some x := by
 subst hl
 exact Qi ..
theorem Z4r {M1 : Mem} {n : Nat} {ys : List D} (hl : M1.length = n) : lsOf (M1 ++ [some (.lst ys)]) (.cell n) = some ys := by
 subst hl
 exact Zjd
theorem Z0v {α : Type} {M1 : List α} {n : Nat} {x y : α} (hl : M1.length = n) : (M1 ++ [x]).set n y = M1 ++ [y] := by
 subst hl
 exact Zbe
theorem Zqf (ds : List D) (M : Mem) (Q : DQ) (E : DX) (h : Zea ds M Q E) : Zdu { nx := fun _ M' => Zab M Q (.v .non) M', rt := Zab M Q } (Zac 5 ds) M := by
 obtain ⟨b, top, rfl, hb, t1, t8, k⟩ := h
 show Zdu _ [some (.cell b), some (vI top), none, none, none] M
 unfold Zdu
 walk_at "ds"
 refine Z41 (z := small) (by show 26 ≤ sizeLine; decide) ?_
 walk_at "ds"
 refine Zee hb.app (by omega) (by omega) fun r M' hr d _ => ?_
 obtain ⟨M1, rfl, d1⟩ := d.app hb.lt
 walk_at "ds"
 rw [show (1 + (r : Int)) = ((1 + r : Nat) : Int) by omega]
 refine ⟨_, rfl, by omega, by omega, ?_⟩
 rw [Ha]
 refine Za9 (fun j ds M2 => ∃ (rest got : List Nat) (v4 : Option D) (M1 : Mem), ds = [some (.cell b), some (vI top), some (.cell M.length), some (vS got), v4] ∧ M2 = M1 ++ [some (.lst ((sgn rest).map D.v))] ∧ Bd b M M1 ∧ (got ++ rest).Perm small ∧ got.length = j)
  ⟨small, [], none, M1, rfl, rfl, d1, Lp _, rfl⟩ ?_ ?_
 ·rintro j x ds M2 N hx ⟨rest, got, v4, M1, rfl, rfl, d1, pm, hg⟩ hN
  have hj : j < 1 + r := by
   have := (Qa.mp hx).1
   simpa using this
  have hlen : got.length + rest.length = 26 := by
   have := pm.length_eq
   rw [Qc] at this
   exact this
  have hl := d1.len
  walk_at "ds"
  refine Zvr (Z4r hl) ?_
  walk_at "ds"
  refine Yc5 (Zt0 hl) ?_
  walk_at "ds"
  have hb1 := d1.bg hb
  refine Zee hb1.app (by simp; omega) (by simp; omega) fun i M' hi d _ => ?_
  obtain ⟨M3, rfl, d3⟩ := d.app hb1.lt
  have hi' : i < rest.length := by simp at hi; omega
  have hl3 := (d1.trans d3).len
  refine ⟨M.length, _, i, vS [rest[i]], rfl, rfl, Zt0 hl3, by omega, by simp; omega, by simp; rw [sizeLine_eq]; omega, by simp [hi'], ?_⟩
  rw [Z0v hl3]
  walk_at "ds"
  refine hN _ _ ⟨rest.eraseIdx i, got ++ [rest[i]], _, M3, rfl, ?_, d1.trans d3, ?_, by rw [Qc, hg]; rfl⟩
  ·rw [show ((i : Int)).toNat = i from rfl, Zm7, sgn, Zm7]
  ·have e := erase_perm rest i rest[i] (Qf hi')
   have : ((got ++ [rest[i]]) ++ rest.eraseIdx i) = got ++ (rest[i] :: rest.eraseIdx i) := by rw [Q6]; rfl
   rw [this]
   exact (e.append_left got).trans pm
 ·rintro ds M2 ⟨rest, got, v4, M1, rfl, rfl, d1, pm, hg⟩
  have hgl : got.length = 1 + r := by simpa using hg
  have nd : got.Nodup := by
   have : (got ++ rest).Nodup := pm.nodup_iff.mpr (by decide)
   exact (H9.mp this).1
  walk_at "ds"
  refine Z4w (by omega) ?_
  walk_at "ds"
  refine Zjm (by rw [Zfa]; omega) ?_
  refine Z3v d1 (k (srt got) M1 ⟨fun c hc => pm.mem_iff.mp (Lm _ (Z9c.mp hc)), by rw [Zfa]; omega, by rw [Zfa]; omega, Zh1 (Z57 nd)⟩ (Z57 nd) (by rw [Zfa]; omega) d1)
theorem Z1i (ls vw z : List Nat) : (getG ((((Zo5 [((Sum.inr (S txA) : Key), PV.str (45 :: ls)), (Sum.inr (S txL), .str ls), (Sum.inr (S txV), .str vw), (Sum.inr (S txC), .str (cons ls vw)), (Sum.inr (S txJ), .str [45])]).map (·.1))).zip (((Zo5 [((Sum.inr (S txA) : Key), PV.str (45 :: ls)), (Sum.inr (S txL), .str ls), (Sum.inr (S txV), .str vw), (Sum.inr (S txC), .str (cons ls vw)), (Sum.inr (S txJ), .str [45])]).map (·.2)).map D.v)) (Sum.inr (S z))).getD (vS (inner z)) = vS (mem ls vw z) := by
 have e : Zo5 [((Sum.inr (S txA) : Key), PV.str (45 :: ls)), (Sum.inr (S txL), .str ls), (Sum.inr (S txV), .str vw), (Sum.inr (S txC), .str (cons ls vw)), (Sum.inr (S txJ), .str [45])] = [((Sum.inr (S txA) : Key), PV.str (45 :: ls)), (Sum.inr (S txL), .str ls), (Sum.inr (S txV), .str vw), (Sum.inr (S txC), .str (cons ls vw)), (Sum.inr (S txJ), .str [45])] := by with_unfolding_all rfl
 rw [e]
 have g : ∀ (k : List Nat) (d : D) (r : List (Key × D)), getG (((Sum.inr (S k) : Key), d) :: r) (Sum.inr (S z)) = if z = k then some d else getG r (Sum.inr (S z)) := fun k d r => by
  unfold getG
  rw [Gu]
  by_cases h : z = k
  ·subst h
   rw [decide_eq_true rfl, if_pos rfl]
   rfl
  ·have : ¬ ((Sum.inr (S k) : Key) = Sum.inr (S z)) := fun q => h ((Z9f k z).mp q).symm
   rw [decide_eq_false this, if_neg h]
 show (getG [((Sum.inr (S txA) : Key), vS (45 :: ls)), (Sum.inr (S txL), vS ls), (Sum.inr (S txV), vS vw), (Sum.inr (S txC), vS (cons ls vw)), (Sum.inr (S txJ), vS [45])] (Sum.inr (S z))).getD (vS (inner z)) = vS (mem ls vw z)
 rw [g, g, g, g, g]
 unfold mem
 split
 ·rfl
 ·split
  ·rfl
  ·split
   ·rfl
   ·split
    ·rfl
    ·split
     ·rfl
     ·rfl
theorem Zqe (ds : List D) (M : Mem) (Q : DQ) (E : DX) (h : Zd9 ds M Q E) : Zdt { nx := fun _ M' => Zab M Q (.v .non) M', rt := Zab M Q } (Zac 6 ds) M := by
 obtain ⟨ls, vw, z, rfl, h1, h2, k⟩ := h
 show Zdt _ [some (vS ls), some (vS vw), some (vS z), none, none, none] M
 unfold Zdt
 walk_at "ds"
 refine Zlj (fun c => !decide (c ∈ vw)) (by show 4 < 6; decide) (by omega) (fun c QB hc q => ?_) ?_
 ·walk_at "ds"
  exact q
 walk_at "ds"
 have cl := Zx6 ls vw
 refine Zjm (z := cons ls vw) (by omega) ?_
 walk_at "ds"
 show Zx3 _ _ _ _
 show dC _ _ _ _
 walk_at "ds"
 show dC _ _ _ _
 walk_at "ds"
 show dC _ _ _ _
 walk_at "ds"
 show dC _ _ _ _
 walk_at "ds"
 show dC _ _ _ _
 walk_at "ds"
 refine ⟨[(Sum.inr (S txA), .str (45 :: ls)), (Sum.inr (S txL), .str ls), (Sum.inr (S txV), .str vw), (Sum.inr (S txC), .str (cons ls vw)), (Sum.inr (S txJ), .str [45])], rfl, by show 5 ≤ 15; decide, ?_⟩
 walk_at "ds"
 show dVar 5 _ _ _
 walk_at "ds"
 refine ⟨⟨_, rfl⟩, ?_⟩
 walk_at "ds"
 refine ⟨Sum.inr (S z), _, rfl, rfl, ?_⟩
 have e := Z1i ls vw z
 unfold inner at e
 rw [e]
 exact Zad k
theorem Zym (ds : List D) (M : Mem) (Q : DQ) (E : DX) (h : Zfh ds M Q E) : Zhv { nx := fun _ M' => Zab M Q (.v .non) M', rt := Zab M Q } (Zac 6 ds) M := by
 obtain ⟨b, ls, rfl, hb, asc, sm, l8, k⟩ := h
 show Zhv _ [some (.cell b), some (vS ls), none, none, none, none] M
 unfold Zhv
 walk_at "ds"
 refine Zee hb (by decide) (by decide) fun way M1 hw d1 hb1 => ?_
 walk_at "ds"
 rw [show [45] ++ ls = 45 :: ls from rfl]
 walk_at "ds"
 by_cases h5 : way = 5
 ·subst h5
  rw [decide_eq_true (by rfl)]
  refine iteT ?_
  walk_at "ds"
  refine Zuf (by show 5 < 6; decide) rfl (by decide) hb1 (by rw [Qe]; omega) fun ys M2 sub hs d2 => ?_
  rw [Qe] at hs
  walk_at "ds"
  refine jn (ys := ys) (by omega) ?_
  walk_at "ds"
  refine Zvt (fun ds' M' => ∃ ld : List Nat, ds' = [some (.cell b), some (vS ls), some (vI 5), some (vS (45 :: ls)), some (vS ld), none] ∧ Bd b M M' ∧ ld ≠ [] ∧ ld.Sublist (45 :: ls)) ?_ ?_
  ·walk_at "ds"
   refine iteT ?_
   walk_at "ds"
   refine ite2 (fun h => ?_) (fun h => ?_)
   ·walk_at "ds"
    refine Zee (d2.bg hb1) (by rw [Qe]; omega) (by rw [Qe]; omega) fun j M9 hj d9 _ => ?_
    have hj : j < (45 :: ls).length := by omega
    refine Zrb (by walk_at "sz") (Zun (j := j) rfl (Qf hj)) ?_
    exact ⟨_, rfl, (d1.trans d2).trans d9, L1 _ _, List.singleton_sublist.mpr (Ho hj)⟩
   ·walk_at "ds"
    exact ⟨_, rfl, d1.trans d2, fun q => h (decide_eq_true q), sub⟩
  ·rintro ds' M' ⟨ld, rfl, bs, ne, sl⟩
   have ll := sl.length_le
   rw [Qe] at ll
   walk_at "ds"
   walk_at "ds"
   refine x_bd bs (k _ _ (Or.inr (Or.inr (Or.inr (Or.inr (Or.inr (Yce sl ne asc sm)))))) (by simp; omega) bs)
 ·have h5' : ¬ ((way : Int) = 5) := fun q => h5 (by omega)
  rw [decide_eq_false h5']
  refine iteF ?_
  walk_at "ds"
  refine Zq9 ?_
  walk_at "ds"
  rw [decide_eq_false h5']
  refine iteF ?_
  walk_at "ds"
  walk_at "ds"
  have hw : way = 0 ∨ way = 1 ∨ way = 2 ∨ way = 3 ∨ way = 4 := by omega
  rcases hw with rfl | rfl | rfl | rfl | rfl
  ·exact Zei rfl (x_bd d1 (k _ _ (Or.inl rfl) (by decide) d1))
  ·exact Zei rfl (x_bd d1 (k _ _ (Or.inr (Or.inl rfl)) (by decide) d1))
  ·exact Zei rfl (x_bd d1 (k _ _ (Or.inr (Or.inr (Or.inl rfl))) (by decide) d1))
  ·exact Zei rfl (x_bd d1 (k _ _ (Or.inr (Or.inr (Or.inr (Or.inl rfl)))) (by decide) d1))
  ·exact Zei rfl (x_bd d1 (k _ _ (Or.inr (Or.inr (Or.inr (Or.inr (Or.inl rfl))))) (by decide) d1))
theorem Zyk (ds : List D) (M : Mem) (Q : DQ) (E : DX) (h : Zib ds M Q E) : Zht { nx := fun _ M' => Zab M Q (.v .non) M', rt := Zab M Q } (Zac 5 ds) M := by
 obtain ⟨b, sg, top, rfl, hb, g1, g2, ht, k⟩ := h
 show Zht _ [some (.cell b), some (vS sg), some (vI top), none, none] M
 unfold Zht
 walk_at "ds"
 refine Zee hb (by omega) (by omega) fun r M1 hr d1 hb1 => ?_
 walk_at "ds"
 refine ⟨_, rfl, by omega, by omega, ?_⟩
 rw [Ha]
 refine Za9 (fun j ds M2 => ∃ (wd : List Nat) (v4 : Option D), ds = [some (.cell b), some (vS sg), some (vI top), some (vS wd), v4] ∧ wd.length = j ∧ (∀ c ∈ wd, c ∈ sg) ∧ Bd b M M2)
  ⟨[], none, rfl, rfl, (fun _ h => nomatch h), d1⟩ ?_ ?_
 ·rintro j x ds M2 N hx ⟨wd, v4, rfl, wl, wm, bs⟩ hN
  have hj : j < r := by
   have := (Qa.mp hx).1
   simpa using this
  have els : ∀ (M3 : Mem) (x4 : D) (E : Zfi), Bd b M M3 → E.nx = N → dAsg (dOp uAdd (dVar 3) (dOp uIx (dVar 1) (Zau Zak noX (Zaa (dVar 0) (Zaa (dCB uLen (Zaa (dVar 1) dNil)) dNil))))) (hName 3) E [some (.cell b), some (vS sg), some (vI top), some (vS wd), some x4] M3 := by
   intro M3 x4 E b3 hE
   walk_at "ds"
   refine Zee (b3.bg hb) (by omega) (by omega) fun i M4 hi d4 _ => ?_
   have hi : i < sg.length := by omega
   refine Zrb (by walk_at "sz") (Zun (j := i) rfl (Qf hi)) ?_
   walk_at "ds"
   rw [hE]
   refine hN _ _ ⟨_, _, rfl, by rw [Qc, wl]; rfl, fun c hc => ?_, b3.trans d4⟩
   rcases Q1.mp hc with hc | hc
   ·exact wm c hc
   ·rw [Qj.mp hc]
    exact Ho hi
  walk_at "ds"
  by_cases hne : wd = []
  ·rw [decide_eq_true hne]
   exact k_nt (iteF (els _ _ _ bs rfl))
  ·rw [decide_eq_false hne]
   have hpos := Gf.mpr hne
   walk_at "ds"
   refine Zee (bs.bg hb) (by decide) (by decide) fun i M3 hi d3 _ => ?_
   walk_at "ds"
   refine ite2 (fun h => ?_) (fun h => ?_)
   ·obtain ⟨c, hc⟩ := Zr0 (z := wd) (i := -1) (by omega) (by omega)
    walk_at "ds"
    refine Zrb (by walk_at "sz") hc ?_
    walk_at "ds"
    refine hN _ _ ⟨_, _, rfl, by rw [Qc, wl]; rfl, fun d hd => ?_, bs.trans d3⟩
    rcases Q1.mp hd with hd | hd
    ·exact wm d hd
    ·rw [Qj.mp hd]
     obtain ⟨_, _, e, _⟩ := atI_get hc
     exact wm c (Qp e)
   ·exact els _ _ _ (bs.trans d3) rfl
 ·rintro ds M2 ⟨wd, v4, rfl, wl, wm, bs⟩
  have wl : wd.length = r := by simpa using wl
  walk_at "ds"
  exact x_bd bs (k _ _ wm (by omega) bs)
theorem Znz (ds : List D) (M : Mem) (Q : DQ) (E : DX) (h : Zax ds M Q E) : Zcz { nx := fun _ M' => Q (.v .non) M', rt := Q } (Zac 2 ds) M := by
 obtain ⟨n, k, al, rfl, hM, hi, hf, q⟩ := h
 show Zcz _ [some (.cell n), some al] M
 unfold Zcz
 walk_at "ds"
 exact k_put hM (by rw [hi]; rfl) (by rw [hi]; exact hf) q
theorem Zml {M : Mem} {n : Nat} {k : Cn} {ys : List D} (h : M[n]? = some (some (.obj k ys))) : obOf M (.cell n) = some (k, ys) := by
 show (match M[n]? with | some (some (Cell.obj c ds)) => some (c, ds) | _ => none) = _
 rw [h]
theorem Ztu {ok : Cn → Bool} {g : DSp} {X : DX} {r : DA} {ds : DSt} {M : Mem} {Q : DQ} {x : D} {k : Cn} {ys : List D} (e : ds[0]? = some (some x)) (e1 : obOf M x = some (k, ys)) (e2 : ok k = true) (h : r ds M fun xs M1 => g (x :: xs) M1 Q X) : dSup ok g X r ds M Q := ⟨x, k, ys, e, e1, e2, h⟩
theorem Zqm (ds : List D) (M : Mem) (Q : DQ) (E : DX) (h : Zeb ds M Q E) : Zd0 E { nx := fun _ M' => Q (.v .non) M', rt := Q } (Zac 3 ds) M := by
 obtain ⟨n, ls, vw, z, rfl, hM, hz, kE, kQ⟩ := h
 show Zd0 E _ [some (.cell n), some (.v (alph ls vw)), some (vS z)] M
 unfold Zd0
 have hn := (Qa.mp hM).1
 have gs : ∀ x : Cell, (M.set n (some x))[n]? = some (some x) := fun x => Qs hn
 walk_at "ds"
 refine Ztu rfl (Zml hM) (by decide) ?_
 walk_at "ds"
 refine ⟨n, .Once, _, rfl, hM, by decide, by decide, ?_⟩
 walk_at "ds"
 refine k_put (gs _) (by with_unfolding_all exact rfl) (by decide) ?_
 rw [Q2]
 walk_at "ds"
 refine k_m Zaz rfl ?_
 walk_at "ds"
 refine ⟨ls, vw, z, rfl, hz, fun o => ?_, fun no => kE no _⟩
 walk_at "ds"
 refine k_put (gs _) (by with_unfolding_all exact rfl) (by decide) ?_
 rw [Q2]
 exact kQ o
theorem Zny (ds : List D) (M : Mem) (Q : DQ) (E : DX) (h : Zc3 ds M Q E) : Zcy E { nx := fun _ M' => Q (.v .non) M', rt := Q } (Zac 4 ds) M := by
 obtain ⟨n, ls, vw, x, z, rfl, hM, hx, hz, kX, kE, kQ⟩ := h
 show Zcy E _ [some (.cell n), some (.v (alph ls vw)), some (vS x), some (vS z)] M
 unfold Zcy
 have hn := (Qa.mp hM).1
 have gs : ∀ x : Cell, (M.set n (some x))[n]? = some (some x) := fun x => Qs hn
 walk_at "ds"
 refine Ztu rfl (Zml hM) (by decide) ?_
 walk_at "ds"
 refine ⟨n, .Write, _, rfl, hM, by decide, by decide, ?_⟩
 walk_at "ds"
 by_cases h1 : (x.length : Int) = 1
 case neg =>
  rw [decide_eq_false h1]
  walk_at "ds"
  exact ⟨_, rfl, rfl, kX (fun o => h1 (by have := o.1; omega)) _⟩
 rw [decide_eq_true h1]
 walk_at "ds"
 refine k_m Zaz rfl ?_
 walk_at "ds"
 refine ⟨ls, vw, x, rfl, ?_⟩
 walk_at "ds"
 cases hw : isW ls x with
 | false =>
  walk_at "ds"
  exact ⟨_, rfl, rfl, kX (fun o => by have := o.2; rw [hw] at this; cases this) _⟩
 | true =>
  have ok : okX ls x := ⟨by omega, hw⟩
  obtain ⟨c, rfl⟩ : ∃ c, x = [c] := Tc.mp ok.1
  walk_at "ds"
  refine k_put (gs _) (by with_unfolding_all exact rfl) (by decide) ?_
  rw [Q2]
  walk_at "ds"
  refine k_put (gs _) (by with_unfolding_all exact rfl) (by decide) ?_
  rw [Q2]
  walk_at "ds"
  refine k_m Zaz rfl ?_
  walk_at "ds"
  refine ⟨ls, vw, z, rfl, hz, fun o => ?_, fun no => kE ok no _⟩
  walk_at "ds"
  refine k_put (gs _) (by with_unfolding_all exact rfl) (by decide) ?_
  rw [Q2]
  exact kQ c rfl ok o
theorem Ztb (ds : List D) (M : Mem) (Q : DQ) (E : DX) (h : Ze5 ds M Q E) : Zez E { nx := fun _ M' => Q (.v .non) M', rt := Q } (Zac 3 ds) M := by
 obtain ⟨n, ls, vw, x, rfl, hM, hx, kX, kQ⟩ := h
 show Zez E _ [some (.cell n), some (.v (alph ls vw)), some (vS x)] M
 unfold Zez
 have hn := (Qa.mp hM).1
 have gs : ∀ x : Cell, (M.set n (some x))[n]? = some (some x) := fun x => Qs hn
 walk_at "ds"
 refine Ztu rfl (Zml hM) (by decide) ?_
 walk_at "ds"
 refine ⟨n, .Add, _, rfl, hM, by decide, by decide, ?_⟩
 walk_at "ds"
 by_cases h1 : (x.length : Int) = 1
 case neg =>
  rw [decide_eq_false h1]
  walk_at "ds"
  exact ⟨_, rfl, rfl, kX (fun o => h1 (by have := o.1; omega)) _⟩
 rw [decide_eq_true h1]
 walk_at "ds"
 refine k_m Zaz rfl ?_
 walk_at "ds"
 refine ⟨ls, vw, x, rfl, ?_⟩
 walk_at "ds"
 cases hw : isW ls x with
 | false =>
  walk_at "ds"
  exact ⟨_, rfl, rfl, kX (fun o => by have := o.2; rw [hw] at this; cases this) _⟩
 | true =>
  have ok : okX ls x := ⟨by omega, hw⟩
  obtain ⟨c, rfl⟩ : ∃ c, x = [c] := Tc.mp ok.1
  walk_at "ds"
  refine k_put (gs _) (by with_unfolding_all exact rfl) (by decide) ?_
  rw [Q2]
  exact kQ c rfl ok
theorem Znw (ds : List D) (M : Mem) (Q : DQ) (E : DX) (h : Zb8 ds M Q E) : Zcw { nx := fun _ M' => Zab M Q (.v .non) M', rt := Zab M Q } (Zac 1 ds) M := by
 obtain ⟨al, st, rfl, ok, ⟨ls, vw, o⟩, q⟩ := h
 cases st with
 | write x nm ch =>
  have hl : nm.length ≤ 60 := o.2.2.2
  show Zcw _ [some (.v (.obj .Write [al, .str [x], .str nm, .str ch]))] M
  unfold Zcw
  walk_at "ds"
  refine ⟨by walk_at "sz", ?_⟩
  walk_at "ds"
  refine Zal rfl (by with_unfolding_all exact rfl) (Or.inl ⟨_, rfl, by show 1 ≤ sizeLine; decide, ?_⟩)
  walk_at "ds"
  refine ⟨by walk_at "sz", ?_⟩
  walk_at "ds"
  refine ⟨by walk_at "sz", ?_⟩
  walk_at "ds"
  refine Zal rfl (by with_unfolding_all exact rfl) (Or.inl ⟨_, rfl, by walk_at "sz", ?_⟩)
  walk_at "ds"
  refine ⟨by walk_at "sz", ?_⟩
  walk_at "ds"
  exact Zad q
 | _ => exact ok.elim
theorem Zqk (ds : List D) (M : Mem) (Q : DQ) (E : DX) (h : Zcn ds M Q E) : Zdy { nx := fun _ M' => Zab M Q (.v .non) M', rt := Zab M Q } (Zac 1 ds) M := by
 obtain ⟨al, st, rfl, ok, ⟨ls, vw, o⟩, q⟩ := h
 cases st with
 | once nm ch =>
  have hl : nm.length ≤ 60 := o.2.2
  show Zdy _ [some (.v (.obj .Once [al, .str nm, .str ch]))] M
  unfold Zdy
  walk_at "ds"
  refine Zal rfl (by with_unfolding_all exact rfl) ?_
  walk_at "ds"
  exact Zad q
 | _ => exact ok.elim
theorem Zs9 (ds : List D) (M : Mem) (Q : DQ) (E : DX) (h : Zdl ds M Q E) : Zex { nx := fun _ M' => Zab M Q (.v .non) M', rt := Zab M Q } (Zac 1 ds) M := by
 obtain ⟨al, st, rfl, ok, ⟨ls, vw, o⟩, q⟩ := h
 cases st with
 | add x =>
  show Zex _ [some (.v (.obj .Add [al, .str [x]]))] M
  unfold Zex
  walk_at "ds"
  refine Zal rfl (by with_unfolding_all exact rfl) ?_
  walk_at "ds"
  exact Zad q
 | _ => exact ok.elim
theorem Zmc (ds : List D) (M : Mem) (Q : DQ) (E : DX) (h : Zbv ds M Q E) : Zfd { nx := fun _ M' => Zab M Q (.v .non) M', rt := Zab M Q } (Zac 1 ds) M := by
 obtain ⟨al, st, rfl, ok, q⟩ := h
 cases st with
 | write x nm ch => exact Zad (x := .int 0) q
 | _ => exact ok.elim
theorem Zn2 (ds : List D) (M : Mem) (Q : DQ) (E : DX) (h : Zca ds M Q E) : Zft { nx := fun _ M' => Zab M Q (.v .non) M', rt := Zab M Q } (Zac 1 ds) M := by
 obtain ⟨al, st, rfl, ok, q⟩ := h
 cases st with
 | once nm ch => exact Zad (x := .str []) q
 | _ => exact ok.elim
theorem Zqr (ds : List D) (M : Mem) (Q : DQ) (E : DX) (h : Zcp ds M Q E) : Zgy { nx := fun _ M' => Zab M Q (.v .non) M', rt := Zab M Q } (Zac 1 ds) M := by
 obtain ⟨al, st, rfl, ok, q⟩ := h
 cases st with
 | add x => exact Zad (x := .int 0) q
 | _ => exact ok.elim
theorem Zqg (ds : List D) (M : Mem) (Q : DQ) (E : DX) (h : Zcl ds M Q E) : Zgx { nx := fun _ M' => Zab M Q (.v .non) M', rt := Zab M Q } (Zac 2 ds) M := by
 obtain ⟨al, st, s, rfl, ok, hs, q⟩ := h
 cases st with
 | write x nm ch => exact Zad (x := .str []) q
 | _ => exact ok.elim
theorem Zs6 (ds : List D) (M : Mem) (Q : DQ) (E : DX) (h : Zdk ds M Q E) : Zi6 { nx := fun _ M' => Zab M Q (.v .non) M', rt := Zab M Q } (Zac 2 ds) M := by
 obtain ⟨al, st, s, rfl, ok, hs, q⟩ := h
 cases st with
 | once nm ch => exact Zad (x := .str []) q
 | _ => exact ok.elim
theorem Zvi (ds : List D) (M : Mem) (Q : DQ) (E : DX) (h : Ze6 ds M Q E) : Zfw { nx := fun _ M' => Zab M Q (.v .non) M', rt := Zab M Q } (Zac 2 ds) M := by
 obtain ⟨al, st, s, rfl, ok, hs, q⟩ := h
 cases st with
 | add x =>
  show Zfw _ [some (.v (.obj .Add [al, .str [x]])), some (vI 0)] M
  unfold Zfw
  walk_at "ds"
  exact Zal rfl (by with_unfolding_all exact rfl) (Zad q)
 | _ => exact ok.elim
theorem Zta (ds : List D) (M : Mem) (Q : DQ) (E : DX) (h : Zdm ds M Q E) : Zey { nx := fun _ M' => Zab M Q (.v .non) M', rt := Zab M Q } (Zac 3 ds) M := by
 obtain ⟨al, st, s, c, rfl, ok, hs, q⟩ := h
 cases st with
 | add x =>
  show Zey _ [some (.v (.obj .Add [al, .str [x]])), some (vI 0), some (vS [c])] M
  unfold Zey
  walk_at "ds"
  exact Zad q
 | _ => exact ok.elim
theorem Znx (ds : List D) (M : Mem) (Q : DQ) (E : DX) (h : Zb9 ds M Q E) : Zcx { nx := fun _ M' => Zab M Q (.v .non) M', rt := Zab M Q } (Zac 3 ds) M := by
 obtain ⟨al, st, s, c, rfl, ok, hs, q⟩ := h
 cases st with
 | write x nm ch =>
  show Zcx _ [some (.v (.obj .Write [al, .str [x], .str nm, .str ch])), some (vI 0), some (vS [c])] M
  unfold Zcx
  have q' : Q (vT [.int 0, .str (if c ∈ ch then [x] else [c])]) M := q
  walk_at "ds"
  refine Zal rfl (by with_unfolding_all exact rfl) ?_
  walk_at "ds"
  refine ite2 (fun h => ?_) (fun h => ?_)
  ·rw [if_pos (of_decide_eq_true h)] at q'
   walk_at "ds"
   refine Zal rfl (by with_unfolding_all exact rfl) ?_
   walk_at "ds"
   exact Zad q'
  ·rw [if_neg fun w => h (decide_eq_true w)] at q'
   walk_at "ds"
   exact Zad q'
 | _ => exact ok.elim
theorem Zql (ds : List D) (M : Mem) (Q : DQ) (E : DX) (h : Zco ds M Q E) : Zdz { nx := fun _ M' => Zab M Q (.v .non) M', rt := Zab M Q } (Zac 3 ds) M := by
 obtain ⟨al, st, s, c, rfl, ok, hs, q⟩ := h
 cases st with
 | once nm ch =>
  show Zdz _ [some (.v (.obj .Once [al, .str nm, .str ch])), some (vS s.w), some (vS [c])] M
  unfold Zdz
  have q' : Q (vT [.str [c], .str (if [c] = s.w ∧ c ∈ ch then [] else [c])]) M := q
  walk_at "ds"
  refine ite2 (fun h => ?_) (fun h => ?_)
  ·have h1 := of_decide_eq_true h
   walk_at "ds"
   refine Zal rfl (by with_unfolding_all exact rfl) ?_
   walk_at "ds"
   refine ite2 (fun h => ?_) (fun h => ?_)
   ·rw [if_pos ⟨h1, of_decide_eq_true h⟩] at q'
    walk_at "ds"
    exact Zad q'
   ·rw [if_neg fun w => h (decide_eq_true w.2)] at q'
    walk_at "ds"
    exact Zad q'
  ·rw [if_neg fun w => h (decide_eq_true w.1)] at q'
   walk_at "ds"
   exact Zad q'
 | _ => exact ok.elim
theorem Zm9 (ch : List Nat) (a : Nat) (e : Bool) (n c : Nat) : (Zeo ch a e n c).length ≤ 1 := by
 unfold Zeo
 split
 ·simp
 ·split
  ·simp
  ·split <;> simp
theorem Zu3 (st : Stg) (s : Sta) (c : Nat) : (st.step s c).ok := by
 cases st with
 | drop nm ch a e l =>
  unfold Stg.step Sta.ok
  cases l
  ·exact Qr _
  ·simp only [if_true]
   split
   ·exact Qr _
   ·split
    ·exact Qu _
    ·exact Qr _
 | once nm ch => exact Qu _
 | write x nm ch => exact Qr _
 | add x => exact Qr _
theorem Z84 (st : Stg) (s : Sta) (c : Nat) (h : s.ok) : (st.out s c).length ≤ 2 := by
 cases st with
 | drop nm ch a e l =>
  have := Zm9 ch a e s.n c
  unfold Sta.ok at h
  simp only [Stg.out]
  split
  ·rw [Qc]
   omega
  ·omega
 | once nm ch =>
  simp only [Stg.out]
  split <;> simp
 | write x nm ch =>
  simp only [Stg.out]
  split <;> simp
 | add x => exact Ta 1
theorem Z2m (st : Stg) (s : Sta) (h : s.ok) : (st.fin s).length ≤ 1 := by
 cases st with
 | drop nm ch a e l =>
  simp only [Stg.fin]
  split
  ·exact h
  ·simp
 | add x => exact Qu _
 | _ => exact Qr _
def Stg.outs (st : Stg) : Sta → List Nat → List (List Nat)
 | _, [] => []
 | s, c :: z => st.out s c :: st.outs (st.step s c) z
def Stg.aft (st : Stg) : Sta → List Nat → Sta
 | s, [] => s
 | s, c :: z => st.aft (st.step s c) z
theorem go_eq (st : Stg) : ∀ (z : List Nat) (s : Sta), st.go s z = (st.outs s z).flatten ++ st.fin (st.aft s z)
 | [], s => rfl
 | c :: z, s => by
  show st.out s c ++ st.go (st.step s c) z = (st.out s c :: st.outs (st.step s c) z).flatten ++ st.fin (st.aft (st.step s c) z)
  rw [go_eq st z, Hs, Q6]
theorem Z3i (st : Stg) : ∀ (z : List Nat) (s : Sta), s.ok → (st.aft s z).ok
 | [], _, h => h
 | c :: z, s, _ => Z3i st z (st.step s c) (Zu3 st s c)
theorem Zxg (st : Stg) : ∀ (z : List Nat) (s : Sta), s.ok → ((st.outs s z).map List.length).sum ≤ 2 * z.length
 | [], _, _ => Qu _
 | c :: z, s, h => by
  have h1 := Zxg st z (st.step s c) (Zu3 st s c)
  have h2 := Z84 st s c h
  show (st.out s c).length + ((st.outs (st.step s c) z).map List.length).sum ≤ 2 * (z.length + 1)
  omega
theorem Ycf {M : Mem} {al : PV} (st : Stg) : obOf M (.v (st.pv al)) = some (st.cls, (st.fs al).map D.v) := rfl
theorem Yd3 (st : Stg) {al : PV} {M : Mem} {p : DSp → Prop} (h : ∀ sp : DSp, (∀ {s : Sta} {c : Nat} {M : Mem} {Q : DQ} {X : DX}, s.ok → Q (vT [st.val (st.step s c), .str (st.out s c)]) M → sp [.v (st.pv al), .v (st.val s), vS [c]] M Q X) → p sp) : ∃ k ys sp, obOf M (.v (st.pv al)) = some (k, ys) ∧ Zjs k = some sp ∧ p sp := by
 refine ⟨st.cls, (st.fs al).map D.v, ?_⟩
 cases st with
 | drop nm ch a e l =>
  cases l
  ·exact ⟨_, rfl, rfl, h _ fun {s c M Q X} hs q => ⟨al, nm, ch, a, e, false, s.n, c, rfl, q⟩⟩
  ·exact ⟨_, rfl, rfl, h _ fun {s c M Q X} hs q => ⟨al, .drop nm ch a e true, s, c, rfl, rfl, hs, q⟩⟩
 | write x nm ch => exact ⟨_, rfl, rfl, h _ fun {s c M Q X} hs q => ⟨al, .write x nm ch, s, c, rfl, trivial, hs, q⟩⟩
 | once nm ch => exact ⟨_, rfl, rfl, h _ fun {s c M Q X} hs q => ⟨al, .once nm ch, s, c, rfl, trivial, hs, q⟩⟩
 | add x => exact ⟨_, rfl, rfl, h _ fun {s c M Q X} hs q => ⟨al, .add x, s, c, rfl, trivial, hs, q⟩⟩
theorem Z94 (st : Stg) {al : PV} {M : Mem} {p : DSp → Prop} (h : ∀ sp : DSp, (∀ {M : Mem} {Q : DQ} {X : DX}, Q (.v (st.val {})) M → sp [.v (st.pv al)] M Q X) → p sp) : ∃ k ys sp, obOf M (.v (st.pv al)) = some (k, ys) ∧ Zia k = some sp ∧ p sp := by
 refine ⟨st.cls, (st.fs al).map D.v, ?_⟩
 cases st with
 | drop nm ch a e l =>
  cases l
  ·exact ⟨_, rfl, rfl, h _ fun {M Q X} q => ⟨al, nm, ch, a, e, false, rfl, q⟩⟩
  ·exact ⟨_, rfl, rfl, h _ fun {M Q X} q => ⟨al, .drop nm ch a e true, rfl, rfl, q⟩⟩
 | write x nm ch => exact ⟨_, rfl, rfl, h _ fun {M Q X} q => ⟨al, .write x nm ch, rfl, trivial, q⟩⟩
 | once nm ch => exact ⟨_, rfl, rfl, h _ fun {M Q X} q => ⟨al, .once nm ch, rfl, trivial, q⟩⟩
 | add x => exact ⟨_, rfl, rfl, h _ fun {M Q X} q => ⟨al, .add x, rfl, trivial, q⟩⟩
theorem Ygw (st : Stg) {al : PV} {M : Mem} {p : DSp → Prop} (h : ∀ sp : DSp, (∀ {s : Sta} {M : Mem} {Q : DQ} {X : DX}, s.ok → Q (vS (st.fin s)) M → sp [.v (st.pv al), .v (st.val s)] M Q X) → p sp) : ∃ k ys sp, obOf M (.v (st.pv al)) = some (k, ys) ∧ Ztz k = some sp ∧ p sp := by
 refine ⟨st.cls, (st.fs al).map D.v, ?_⟩
 cases st with
 | drop nm ch a e l =>
  cases l
  ·exact ⟨_, rfl, rfl, h _ fun {s M Q X} hs q => ⟨al, nm, ch, a, e, false, s.n, rfl, q⟩⟩
  ·exact ⟨_, rfl, rfl, h _ fun {s M Q X} hs q => ⟨al, .drop nm ch a e true, s, rfl, rfl, hs, q⟩⟩
 | write x nm ch => exact ⟨_, rfl, rfl, h _ fun {s M Q X} hs q => ⟨al, .write x nm ch, s, rfl, trivial, hs, q⟩⟩
 | once nm ch => exact ⟨_, rfl, rfl, h _ fun {s M Q X} hs q => ⟨al, .once nm ch, s, rfl, trivial, hs, q⟩⟩
 | add x => exact ⟨_, rfl, rfl, h _ fun {s M Q X} hs q => ⟨al, .add x, s, rfl, trivial, hs, q⟩⟩
theorem Yd2 (st : Stg) {al : PV} {ls vw : List Nat} (ok : st.ok ls vw) {M : Mem} {p : DSp → Prop} (h : ∀ sp : DSp, (∀ {M : Mem} {Q : DQ} {X : DX}, Q (vS st.text) M → sp [.v (st.pv al)] M Q X) → p sp) : ∃ k ys sp, obOf M (.v (st.pv al)) = some (k, ys) ∧ Zm3 k = some sp ∧ p sp := by
 refine ⟨st.cls, (st.fs al).map D.v, ?_⟩
 cases st with
 | drop nm ch a e l =>
  cases l
  ·exact ⟨_, rfl, rfl, h _ fun {M Q X} q => ⟨al, nm, ch, a, e, false, rfl, ok.2.2.1, ok.2.2.2, q⟩⟩
  ·exact ⟨_, rfl, rfl, h _ fun {M Q X} q => ⟨al, .drop nm ch a e true, rfl, rfl, ⟨ls, vw, ok⟩, q⟩⟩
 | write x nm ch => exact ⟨_, rfl, rfl, h _ fun {M Q X} q => ⟨al, .write x nm ch, rfl, trivial, ⟨ls, vw, ok⟩, q⟩⟩
 | once nm ch => exact ⟨_, rfl, rfl, h _ fun {M Q X} q => ⟨al, .once nm ch, rfl, trivial, ⟨ls, vw, ok⟩, q⟩⟩
 | add x => exact ⟨_, rfl, rfl, h _ fun {M Q X} q => ⟨al, .add x, rfl, trivial, ⟨ls, vw, ok⟩, q⟩⟩
theorem Yd4 (st : Stg) {ls vw : List Nat} {M : Mem} {p : DSp → Prop} (h : p Zbo) : ∃ k ys sp, obOf M (.v (st.pv (alph ls vw))) = some (k, ys) ∧ Zrd k = some sp ∧ p sp := by
 refine ⟨st.cls, (st.fs (alph ls vw)).map D.v, ?_⟩
 cases st with
 | drop nm ch a e l =>
  cases l
  ·exact ⟨_, rfl, rfl, h⟩
  ·exact ⟨_, rfl, rfl, h⟩
 | write x nm ch => exact ⟨_, rfl, rfl, h⟩
 | once nm ch => exact ⟨_, rfl, rfl, h⟩
 | add x => exact ⟨_, rfl, rfl, h⟩
theorem d_ob (st : Stg) {al : PV} {M : Mem} : ∃ k ys, obOf M (.v (st.pv al)) = some (k, ys) := ⟨_, _, Ycf st⟩
theorem Zxy {st : Stg} {al : PV} {M : Mem} {p : D → Prop} (h : p (.v al)) : ∃ k ys y, obOf M (.v (st.pv al)) = some (k, ys) ∧ ys[k.ix .alphabet]? = some y ∧ p y := by
 cases st with
 | drop nm ch a e l => cases l <;> exact ⟨_, _, _, rfl, by with_unfolding_all exact rfl, h⟩
 | write x nm ch => exact ⟨_, _, _, rfl, by with_unfolding_all exact rfl, h⟩
 | once nm ch => exact ⟨_, _, _, rfl, by with_unfolding_all exact rfl, h⟩
 | add x => exact ⟨_, _, _, rfl, by with_unfolding_all exact rfl, h⟩
theorem Zn0 (ds : List D) (M : Mem) (Q : DQ) (E : DX) (h : Zbo ds M Q E) : Zc0 (Zbf M E) { nx := fun _ M' => Zab M Q (.v .non) M', rt := Zab M Q } (Zac 6 ds) M := by
 obtain ⟨ls, vw, st, z, rfl, hz, kE, kQ⟩ := h
 show Zc0 (Zbf M E) _ [some (.v (st.pv (alph ls vw))), some (vS z), none, none, none, none] M
 unfold Zc0
 walk_at "ds"
 refine Zxy ?_
 refine k_m Zaz rfl ?_
 walk_at "ds"
 refine ⟨ls, vw, z, rfl, ?_⟩
 walk_at "ds"
 cases hw : isW ls z with
 | false =>
  walk_at "ds"
  exact ⟨_, rfl, rfl, Zc6 (kE hw)⟩
 | true =>
  walk_at "ds"
  refine Z94 st fun sp hsp => ?_
  walk_at "ds"
  refine hsp ?_
  walk_at "ds"
  have key : ∀ (y : List Nat) (s : Sta) (acc : List (List Nat)) (v4 v5 : Option D) (N : DSt → Mem → Prop), s.ok → acc.length + y.length ≤ 1000 →
    (∀ v4 v5, N [some (.v (st.pv (alph ls vw))), some (vS z), some (.v (st.val (st.aft s y))), some (.cell M.length), v4, v5] (M ++ [some (.lst (((acc ++ st.outs s y).map PV.str).map D.v))])) →
    Zgk (hName 4) (dSeq (dAsg (Zc4 Zjs [] noX (dVar 0) (Zaa (dVar 2) (Zaa (dVar 4) dNil))) (hTup 2 (Zjp (hName 2) (Zjp (hName 5) hNil)))) (Zf4 (dBm tyL uApp (dVar 3) (Zaa (dVar 5) dNil)))) { nx := N, rt := Zab M Q } (y.map fun c => vS [c])
     [some (.v (st.pv (alph ls vw))), some (vS z), some (.v (st.val s)), some (.cell M.length), v4, v5] (M ++ [some (.lst ((acc.map PV.str).map D.v))]) := by
   intro y
   induction y with
   | nil =>
    intro s acc v4 v5 N hs hl h
    have := h v4 v5
    rw [show st.outs s [] = [] from rfl, Qx] at this
    exact this
   | cons c y ih =>
    intro s acc v4 v5 N hs hl h
    rw [Qe] at hl
    refine Ztm ?_
    walk_at "ds"
    refine Yd3 st fun sp hsp => ?_
    walk_at "ds"
    refine hsp hs ?_
    refine Zka rfl ?_
    refine Zff ?_
    walk_at "ds"
    refine Zff ?_
    walk_at "ds"
    refine Ztv ?_
    walk_at "ds"
    refine Zvr Zjd ?_
    walk_at "ds"
    refine Ztw (by rw [Qb, Qb, sizeLine_eq]; omega) ?_
    have e : (acc.map PV.str).map D.v ++ [D.v (.str (st.out s c))] = ((acc ++ [st.out s c]).map PV.str).map D.v := by
     rw [Qv, Qv]
     rfl
    rw [e]
    refine ih (st.step s c) (acc ++ [st.out s c]) _ _ N (Zu3 st s c) (by rw [Qc]; simp only [Qe, Qh]; omega) fun v4 v5 => ?_
    have := h v4 v5
    rw [show st.outs s (c :: y) = st.out s c :: st.outs (st.step s c) y from rfl] at this
    rw [Q6]
    exact this
  refine key z {} [] none none _ (Qr _) (by simp only [Qh]; omega) fun v4 v5 => ?_
  rw [Hw]
  have hs := Zxg st z {} (Qr _)
  have ha := Z3i st z {} (Qr _)
  have hl : (st.outs {} z).length = z.length := by
   have : ∀ (z : List Nat) (s : Sta), (st.outs s z).length = z.length := fun z => by
    induction z with
    | nil => exact fun _ => rfl
    | cons c z ih => exact fun s => congrArg Nat.succ (ih _)
   exact this z {}
  walk_at "ds"
  refine Zvr Zjd ?_
  walk_at "ds"
  refine Ygw st fun sp hsp => ?_
  walk_at "ds"
  refine hsp ha ?_
  refine Zyq ?_
  refine Ztw (by rw [Qb, Qb, hl, sizeLine_eq]; omega) ?_
  walk_at "ds"
  have e : ((st.outs {} z).map PV.str).map D.v ++ [D.v (.str (st.fin (st.aft {} z)))] = ((st.outs {} z ++ [st.fin (st.aft {} z)]).map PV.str).map D.v := by
   rw [Qv, Qv]
   rfl
  have fl := Z2m st (st.aft {} z) ha
  refine Z9m e ?_ ?_
  ·rw [Qv, Lk]
   simp only [Q3, Gb, Hz, Ll, Qh]
   omega
  ·rw [Zlh, List.flatten_append]
   have e2 : (st.outs {} z).flatten ++ [st.fin (st.aft {} z)].flatten = st.run z := by
    unfold Stg.run
    rw [go_eq]
    simp
   rw [e2]
   exact Z72 (kQ hw)
def Stg.tup : Stg → PV
 | .drop nm _ a e l => .tup [.str [100, 114, 111, 112], .str nm, .int a, .bl e, .bl l]
 | .write x nm _ => .tup [.str [119, 114, 105, 116, 101], .str [x], .str nm]
 | .once nm _ => .tup [.str [111, 110, 99, 101], .str nm]
 | .add x => .tup [.str [97, 100, 100], .str [x]]
def Zbz : DSp := fun ds M Q _ => ∃ st, ds = [.v (Stg.tup st)] ∧ (∃ ls vw, st.ok ls vw) ∧ Q (vS st.text) M
def Zid : DSp := fun ds M Q _ => ∃ ls vw st z, ds = [vS ls, vS vw, .v (Stg.tup st), vS z] ∧ st.ok ls vw ∧ ls.length ≤ 60 ∧ z.length ≤ 1000 ∧ Q (vS (st.run z)) M
theorem Zh3 (ds : List D) (M : Mem) (Q : DQ) (E : DX) (h : Zbz ds M Q E) : ds.length = 1 := by obtain ⟨_, rfl, _⟩ := h; rfl
theorem Zq3 (ds : List D) (M : Mem) (Q : DQ) (E : DX) (h : Zid ds M Q E) : ds.length = 4 := by obtain ⟨_, _, _, _, rfl, _⟩ := h; rfl
def lapp (ch : List Nat) (a : Nat) (e l : Bool) : Nat → List Nat → List Nat
 | _, [] => []
 | k, c :: y => (if (c ∈ ch ∧ a < (if e = true ∧ c = 45 then 0 else k + 1)) ∧ ¬ (l = true ∧ y = []) ∧ ¬ (l = true ∧ e = true ∧ y.head? = some 45) then [] else [c]) ++ lapp ch a e l (if e = true ∧ c = 45 then 0 else k + 1) y
def pend (e l : Bool) (w z : List Nat) : List Nat := if l = true ∧ (z = [] ∨ (e = true ∧ z.head? = some 45)) then w else []
theorem drop_eq (nm ch : List Nat) (a : Nat) (e l : Bool) : ∀ (z : List Nat) (k : Nat) (w : List Nat), w.length ≤ 1 → (Stg.drop nm ch a e l).go { n := min k a, w := w } z = pend e l w z ++ lapp ch a e l k z
 | [], k, w, _ => by
  show (Stg.drop nm ch a e l).fin { n := min k a, w := w } = pend e l w [] ++ []
  cases l
  ·rfl
  ·simp [Stg.fin, pend]
 | c :: y, k, w, hw => by
  show (Stg.drop nm ch a e l).out { n := min k a, w := w } c ++ (Stg.drop nm ch a e l).go ((Stg.drop nm ch a e l).step { n := min k a, w := w } c) y = pend e l w (c :: y) ++ ((if (c ∈ ch ∧ a < (if e = true ∧ c = 45 then 0 else k + 1)) ∧ ¬ (l = true ∧ y = []) ∧ ¬ (l = true ∧ e = true ∧ y.head? = some 45) then [] else [c]) ++ lapp ch a e l (if e = true ∧ c = 45 then 0 else k + 1) y)
  have hd : ∀ w' : List Nat, w'.length ≤ 1 → (Stg.drop nm ch a e l).go { n := Zju ch a e (min k a) c, w := w' } y = pend e l w' y ++ lapp ch a e l (if e = true ∧ c = 45 then 0 else k + 1) y := fun w' hw' => by
   rw [← drop_eq nm ch a e l y _ w' hw']
   congr 2
   unfold Zju
   by_cases h1 : e = true ∧ c = 45
   ·rw [if_pos h1, if_pos h1]
    omega
   ·rw [if_neg h1, if_neg h1]
    split <;> omega
  by_cases h1 : e = true ∧ c = 45
  ·obtain ⟨he, hc⟩ := h1
   have ho : Zeo ch a e (min k a) c = [c] := by
    unfold Zeo
    rw [if_pos ⟨he, hc⟩]
   have hg : ¬ ((c ∈ ch ∧ a < (if e = true ∧ c = 45 then 0 else k + 1)) ∧ ¬ (l = true ∧ y = []) ∧ ¬ (l = true ∧ e = true ∧ y.head? = some 45)) := by
    rw [if_pos ⟨he, hc⟩]
    omega
   rw [if_neg hg]
   cases l with
   | false =>
    have e1 : (Stg.drop nm ch a e false).out { n := min k a, w := w } c = [c] := by
     simp only [Stg.out, ho]
     simp
    have e2 : (Stg.drop nm ch a e false).step { n := min k a, w := w } c = { n := Zju ch a e (min k a) c, w := [] } := by simp [Stg.step]
    rw [e1, e2, hd [] (Qr _)]
    simp [pend]
   | true =>
    have e1 : (Stg.drop nm ch a e true).out { n := min k a, w := w } c = w ++ [c] := by
     simp only [Stg.out, ho]
     rw [if_pos ⟨trivial, he, hc⟩]
    have e2 : (Stg.drop nm ch a e true).step { n := min k a, w := w } c = { n := Zju ch a e (min k a) c, w := [] } := by
     simp only [Stg.step]
     rw [if_pos trivial, if_pos ⟨he, hc⟩]
    rw [e1, e2, hd [] (Qr _)]
    have e3 : pend e true w (c :: y) = w := by
     unfold pend
     rw [if_pos ⟨rfl, Or.inr ⟨he, by rw [hc]; rfl⟩⟩]
    have e4 : pend e true [] y = [] := by
     unfold pend
     split <;> rfl
    rw [e3, e4]
    simp
  ·have e3 : pend e l w (c :: y) = [] := by
    unfold pend
    rw [if_neg]
    rintro ⟨_, h | ⟨h2, h3⟩⟩
    ·cases h
    ·exact h1 ⟨h2, by simpa using h3⟩
   rw [e3, Hw]
   have e1 : (Stg.drop nm ch a e l).out { n := min k a, w := w } c = Zeo ch a e (min k a) c := by
    simp only [Stg.out]
    rw [if_neg fun q => h1 q.2]
   rw [e1]
   by_cases hg : c ∈ ch ∧ a < k + 1
   ·have ho : Zeo ch a e (min k a) c = [] := by
     unfold Zeo
     rw [if_neg h1, if_neg (by omega), if_pos hg.1]
    rw [ho, Hw]
    cases l with
    | false =>
     have e2 : (Stg.drop nm ch a e false).step { n := min k a, w := w } c = { n := Zju ch a e (min k a) c, w := [] } := by simp [Stg.step]
     rw [e2, hd [] (Qr _), if_neg h1]
     rw [if_pos ⟨hg, by simp, by simp⟩]
     simp [pend]
    | true =>
     have e2 : (Stg.drop nm ch a e true).step { n := min k a, w := w } c = { n := Zju ch a e (min k a) c, w := [c] } := by
      simp only [Stg.step, ho]
      rw [if_pos trivial, if_neg h1, if_pos trivial]
     rw [e2, hd [c] (Qu _), if_neg h1]
     congr 1
     unfold pend
     by_cases hp : y = [] ∨ (e = true ∧ y.head? = some 45)
     ·rw [if_pos ⟨rfl, hp⟩, if_neg]
      rintro ⟨_, h2, h3⟩
      rcases hp with hp | hp
      ·exact h2 ⟨rfl, hp⟩
      ·exact h3 ⟨rfl, hp⟩
     ·rw [if_neg fun q => hp q.2, if_pos ⟨hg, fun q => hp (Or.inl q.2), fun q => hp (Or.inr q.2)⟩]
   ·have ho : Zeo ch a e (min k a) c = [c] := by
     unfold Zeo
     rw [if_neg h1]
     by_cases hk : min k a < a
     ·rw [if_pos hk]
     ·rw [if_neg hk, if_neg fun q => hg ⟨q, by omega⟩]
    rw [ho, if_neg (by rw [if_neg h1]; exact fun q => hg q.1)]
    have e2 : (Stg.drop nm ch a e l).step { n := min k a, w := w } c = { n := Zju ch a e (min k a) c, w := [] } := by
     cases l
     ·simp [Stg.step]
     ·simp only [Stg.step, ho]
      rw [if_pos trivial, if_neg h1, if_neg (by simp)]
    have e4 : pend e l [] y = [] := by
     unfold pend
     split <;> rfl
    rw [e2, hd [] (Qr _), e4, Hw]
theorem Z5j (nm ch : List Nat) (a : Nat) (e l : Bool) (z : List Nat) : (Stg.drop nm ch a e l).run z = lapp ch a e l 0 z := by
 have := drop_eq nm ch a e l z 0 [] (Qr _)
 have e1 : (Stg.drop nm ch a e l).run z = (Stg.drop nm ch a e l).go { n := min 0 a, w := [] } z := by
  unfold Stg.run
  rw [Nat.zero_min]
 rw [e1, this]
 have : pend e l [] z = [] := by
  unfold pend
  split <;> rfl
 rw [this, Hw]
theorem Zsa (x : Nat) (nm ch : List Nat) : ∀ z : List Nat, ∀ s, (Stg.write x nm ch).go s z = (z.map fun c => if c ∈ ch then [x] else [c]).flatten
 | [], _ => rfl
 | c :: y, s => by
  show (if c ∈ ch then [x] else [c]) ++ (Stg.write x nm ch).go {} y = _
  rw [Zsa x nm ch y]
  rfl
theorem Z3j (x : Nat) : ∀ z : List Nat, ∀ s, (Stg.add x).go s z = z ++ [x]
 | [], _ => rfl
 | c :: y, s => by
  show [c] ++ (Stg.add x).go {} y = _
  rw [Z3j x y]
  rfl
def Zq0 (ch : List Nat) : List Nat → List Nat → List Nat
 | _, [] => []
 | b, c :: y => (if [c] = b ∧ c ∈ ch then [] else [c]) ++ Zq0 ch [c] y
theorem Zxh (nm ch : List Nat) : ∀ (z : List Nat) (s : Sta), (Stg.once nm ch).go s z = Zq0 ch s.w z
 | [], _ => rfl
 | c :: y, s => by
  show (if [c] = s.w ∧ c ∈ ch then [] else [c]) ++ (Stg.once nm ch).go { w := [c] } y = _
  rw [Zxh nm ch y]
  rfl
def Zai : DS :=
 dSeq (dIfS (Zae (dOp uNe (dOp uIx (dVar 0) (dC (.int 0))) (dC (.str [100, 114, 111, 112])))) (dRet (dOp uAdd (dOp uAdd (dOp uIx (dVar 0) (dC (.int 0))) (dC (.str [32]))) (dBm tyS Zdn (dC (.str [32, 102, 111, 114, 32])) (Zaa (dSl uSlT (dVar 0) (Zej (dC (.int 1))) Zci) dNil)))) Zaf) (dSeq (dAsg (dOp uAdd (dOp uAdd (dC (.str [100, 114, 111, 112, 32])) (dOp uIx (dVar 0) (dC (.int 1)))) (dOp uIx (dLst (Zaa (dC (.str [])) (Zaa (dOp uAdd (dC (.str [32, 97, 102, 116, 101, 114, 32])) (dCB uStr (Zaa (dOp uIx (dVar 0) (dC (.int 2))) dNil))) dNil))) (dCB uInt (Zaa (dOp uGt (dOp uIx (dVar 0) (dC (.int 2))) (dC (.int 0))) dNil)))) (hName 1)) (dRet (dOp uAdd (dOp uAdd (dVar 1) (dOp uIx (dLst (Zaa (dC (.str [])) (Zaa (dC (.str [32, 101, 97, 99, 104])) dNil))) (dCB uInt (Zaa (dOp uIx (dVar 0) (dC (.int 3))) dNil)))) (dOp uIx (dLst (Zaa (dC (.str [])) (Zaa (dC (.str [32, 98, 117, 116, 32, 108, 97, 115, 116])) dNil))) (dCB uInt (Zaa (dOp uIx (dVar 0) (dC (.int 4))) dNil))))))
def Zbh : DS :=
 dSeq (dIfS (Zae (dOp uEq (dOp uIx (dVar 2) (dC (.int 0))) (dC (.str [97, 100, 100])))) (dRet (dOp uAdd (dVar 3) (dOp uIx (dVar 2) (dC (.int 1))))) Zaf) (dSeq (dIfS (Zae (dOp uEq (dOp uIx (dVar 2) (dC (.int 0))) (dC (.str [119, 114, 105, 116, 101])))) (dSeq (dAsg (Zau Zd9 noX (Zaa (dVar 0) (Zaa (dVar 1) (Zaa (dOp uIx (dVar 2) (dC (.int 2))) dNil)))) (hName 4)) (dRet (dBm tyS Zdn (dC (.str [])) (Zaa (dLc (jStr (dVar 3)) (hName 5) dYes (dIf (Zae (dOp uIn (dVar 5) (dVar 4))) (dOp uIx (dVar 2) (dC (.int 1))) (dVar 5)) [5]) dNil)))) Zaf) (dSeq (dAsg (Zau Zd9 noX (Zaa (dVar 0) (Zaa (dVar 1) (Zaa (dOp uIx (dVar 2) (dC (.int 1))) dNil)))) (hName 4)) (dSeq (dAsg (dC (.str [])) (hName 6)) (dSeq (dAsg (dC (.int 0)) (hName 7)) (dSeq (dFor (Zjn (Zaa (dCB uLen (Zaa (dVar 3) dNil)) dNil)) (hName 8) (dSeq (dAsg (dOp uIx (dVar 3) (dVar 8)) (hName 5)) (dCut (dIfS (Zae (dOp uEq (dOp uIx (dVar 2) (dC (.int 0))) (dC (.str [111, 110, 99, 101])))) (dAsg (Zru (dOp uGt (dVar 8) (dC (.int 0))) (Zru (dOp uEq (dOp uIx (dVar 3) (dOp uSub (dVar 8) (dC (.int 1)))) (dVar 5)) (dOp uIn (dVar 5) (dVar 4)))) (hName 9)) (dSeq (dAsg (dOp uAdd (dVar 7) (dC (.int 1))) (hName 7)) (dCut (dIfS (dAnd (dTru (dOp uIx (dVar 2) (dC (.int 3)))) (Zae (dOp uEq (dVar 5) (dC (.str [45]))))) (dAsg (dC (.int 0)) (hName 7)) Zaf) (dSeq (dAsg (Zru (dOp uIn (dVar 5) (dVar 4)) (dOp uGt (dVar 7) (dOp uIx (dVar 2) (dC (.int 2))))) (hName 9)) (dCut (dIfS (dAnd (dTru (dOp uIx (dVar 2) (dC (.int 4)))) (Zae (dOp uEq (dVar 8) (dOp uSub (dCB uLen (Zaa (dVar 3) dNil)) (dC (.int 1)))))) (dAsg (dC (.bl false)) (hName 9)) Zaf) (dIfS (dAnd (dTru (dOp uIx (dVar 2) (dC (.int 4)))) (dAnd (dTru (dOp uIx (dVar 2) (dC (.int 3)))) (Zae (dOp uEq (dSl uSl (dVar 3) (Zej (dOp uAdd (dVar 8) (dC (.int 1)))) (Zej (dOp uAdd (dVar 8) (dC (.int 2))))) (dC (.str [45])))))) (dAsg (dC (.bl false)) (hName 9)) Zaf)))))) (dIfS (dNot (dTru (dVar 9))) (dAsg (dOp uAdd (dVar 6) (dVar 5)) (hName 6)) Zaf)))) (dRet (dVar 6)))))))
theorem Z2y {i : Nat} {te : DE} {ds : DSt} {M : Mem} {P : List PV → Mem → Prop} {z : List Nat} (f : Nat → PV) (hz : z.length ≤ 1000000) (ht : ∀ (c : Nat) (Q : DQ), c ∈ z → Q (.v (f c)) M → te (ds.set i (some (vS [c]))) M Q) (h : P (z.map f) M) :
  Zec (hName i) dYes te ds P (z.map fun c => vS [c]) [] M := by
 have key : ∀ (y : List Nat) (acc : List PV), (∀ c ∈ y, c ∈ z) → acc.length + y.length ≤ 1000000 → P (acc ++ y.map f) M → Zec (hName i) dYes te ds P (y.map fun c => vS [c]) acc M := by
  intro y
  induction y with
  | nil => exact fun acc _ _ h => by rw [Gb, Qx] at h; exact h
  | cons c y ih =>
   intro acc hs hl h
   rw [Qe] at hl
   show hName i (vS [c]) ds M _
   walk_at "ds"
   refine ht c _ (hs c Qo) ⟨f c, rfl, by rw [sizeLine_eq]; omega, ih _ (fun d m => hs d (Qk _ m)) (by rw [Qc]; simp only [Qe, Qh]; omega) ?_⟩
   rw [Q6]
   exact h
 exact key z [] (fun _ m => m) (by simp only [Qh]; omega) h
theorem sl1 {n : Nat} (h : 1 ≤ n) (p : Prop) : ¬ (HT.sIx n 0 (some 1) = 0 ∧ p) := fun w => by
 have : HT.sIx n 0 (some 1) = min 1 n := rfl
 omega
theorem Zkp (ds : List D) (M : Mem) (Q : DQ) (E : DX) (h : Zbz ds M Q E) : Zai { nx := fun _ M' => Zab M Q (.v .non) M', rt := Zab M Q } (Zac 2 ds) M := by
 obtain ⟨st, rfl, ⟨ls, vw, o⟩, q⟩ := h
 cases st with
 | write x nm ch =>
  have hl : nm.length ≤ 60 := o.2.2.2
  show Zai _ [some (vT [.str [119, 114, 105, 116, 101], .str [x], .str nm]), none] M
  unfold Zai
  walk_at "ds"
  refine iteT ?_
  walk_at "ds"
  refine Z4x (sl1 (by simp) _) ?_
  refine Zyq ?_
  refine Zvs (y := [32, 102, 111, 114, 32]) (zs := [[x], nm]) (by with_unfolding_all exact rfl) (by simp only [Q3, Gb, Hz, Ll, Qe, Qh]; omega) ?_
  refine Ze1 (by show _ + ([x] ++ ([32, 102, 111, 114, 32] ++ nm)).length ≤ _; walk_at "sz") (Zad ?_)
  exact q
 | once nm ch =>
  have hl : nm.length ≤ 60 := o.2.2
  show Zai _ [some (vT [.str [111, 110, 99, 101], .str nm]), none] M
  unfold Zai
  walk_at "ds"
  refine iteT ?_
  walk_at "ds"
  refine Z4x (sl1 (by simp) _) ?_
  refine Zyq ?_
  refine Zvs (y := [32, 102, 111, 114, 32]) (zs := [nm]) (by with_unfolding_all exact rfl) (by simp only [Q3, Gb, Hz, Ll, Qe, Qh]; omega) ?_
  refine Ze1 (by show _ + nm.length ≤ _; walk_at "sz") (Zad ?_)
  exact q
 | add x =>
  show Zai _ [some (vT [.str [97, 100, 100], .str [x]]), none] M
  unfold Zai
  walk_at "ds"
  refine iteT ?_
  walk_at "ds"
  refine Z4x (sl1 (by simp) _) ?_
  refine Zyq ?_
  refine Zvs (y := [32, 102, 111, 114, 32]) (zs := [[x]]) (by with_unfolding_all exact rfl) (by simp) ?_
  refine Ze1 (by show _ + 1 ≤ _; walk_at "sz") (Zad ?_)
  exact q
 | drop nm ch a e l =>
  have hl : nm.length ≤ 60 := o.2.2.1
  have ha : a ≤ 3 := o.2.2.2
  show Zai _ [some (vT [.str [100, 114, 111, 112], .str nm, .int a, .bl e, .bl l]), none] M
  unfold Zai
  walk_at "ds"
  refine ⟨a, rfl, by rcases (show a = 0 ∨ a = 1 ∨ a = 2 ∨ a = 3 by omega) with rfl | rfl | rfl | rfl <;> decide, ?_⟩
  have hf : figs a = dig a := by rcases (show a = 0 ∨ a = 1 ∨ a = 2 ∨ a = 3 by omega) with rfl | rfl | rfl | rfl <;> decide +kernel
  rw [hf]
  refine Ze1 (by show 7 + 1 ≤ sizeLine; decide) ?_
  walk_at "ds"
  walk_at "ds"
  refine Zei (y := .str (if 0 < a then [32, 97, 102, 116, 101, 114, 32] ++ dig a else [])) (by
   by_cases h : 0 < a
   ·rw [if_pos h, decide_eq_true (by omega)]
    rfl
   ·rw [if_neg h, decide_eq_false (by omega)]
    rfl) ?_
  have l1 : (if 0 < a then [32, 97, 102, 116, 101, 114, 32] ++ dig a else []).length ≤ 8 := by split <;> simp [dig]
  refine Ze1 (by walk_at "sz") ?_
  walk_at "ds"
  walk_at "ds"
  refine Zei (y := .str (if e = true then [32, 101, 97, 99, 104] else [])) (by cases e <;> rfl) ?_
  have l2 : (if e = true then [32, 101, 97, 99, 104] else []).length ≤ 5 := by split <;> simp
  refine Ze1 (by walk_at "sz") ?_
  walk_at "ds"
  walk_at "ds"
  refine Zei (y := .str (if l = true then [32, 98, 117, 116, 32, 108, 97, 115, 116] else [])) (by cases l <;> rfl) ?_
  have l3 : (if l = true then [32, 98, 117, 116, 32, 108, 97, 115, 116] else []).length ≤ 9 := by split <;> simp
  refine Ze1 (by walk_at "sz") (Zad ?_)
  exact q
theorem Z1d (p : Prop) [Decidable p] (c : Nat) : (if p then ([] : List Nat) else [c]).length ≤ 1 := by split <;> simp
theorem Zxm (ch : List Nat) (a : Nat) (e l : Bool) : ∀ (z : List Nat) (k : Nat), (lapp ch a e l k z).length ≤ z.length
 | [], _ => Qu _
 | c :: y, k => by
  have := Zxm ch a e l y (if e = true ∧ c = 45 then 0 else k + 1)
  rw [lapp, Qc, Qe]
  have h1 := Z1d ((c ∈ ch ∧ a < (if e = true ∧ c = 45 then 0 else k + 1)) ∧ ¬ (l = true ∧ y = []) ∧ ¬ (l = true ∧ e = true ∧ y.head? = some 45)) c
  omega
theorem Zto (ch : List Nat) : ∀ (z b : List Nat), (Zq0 ch b z).length ≤ z.length
 | [], _ => Qu _
 | c :: y, b => by
  have := Zto ch y [c]
  rw [Zq0, Qc, Qe]
  have h1 := Z1d ([c] = b ∧ c ∈ ch) c
  omega
theorem cut1 (z : List Nat) (k : Nat) : cut z (some ((k : Int) + 1)) (some ((k : Int) + 2)) = (z.drop (k + 1)).take 1 := by
 have e1 : ((k : Int) + 1) = ((k + 1 : Nat) : Int) := by omega
 have e2 : ((k : Int) + 2) = ((k + 2 : Nat) : Int) := by omega
 rw [e1, e2, Yec]
 by_cases h : k + 1 ≤ z.length
 ·rw [Gv h]
  by_cases h2 : k + 2 ≤ z.length
  ·rw [Gv h2, show k + 2 - (k + 1) = 1 by omega]
  ·have : z.drop (k + 1) = [] := H8 (by omega)
   rw [this]
   simp
 ·have h' : z.length ≤ k + 1 := by omega
  rw [L3 h', Hl, H8 h']
  simp
theorem Z3z (y : List Nat) : decide (y.take 1 = [45]) = decide (y.head? = some 45) := by
 cases y with
 | nil => rfl
 | cons a t =>
  rw [Q7]
  simp
theorem Zvg (ds : List D) (M : Mem) (Q : DQ) (E : DX) (h : Zid ds M Q E) : Zbh { nx := fun _ M' => Zab M Q (.v .non) M', rt := Zab M Q } (Zac 10 ds) M := by
 obtain ⟨ls, vw, st, z, rfl, o, hls, hz, q⟩ := h
 cases st with
 | add x =>
  show Zbh _ [some (vS ls), some (vS vw), some (vT [.str [97, 100, 100], .str [x]]), some (vS z), none, none, none, none, none, none] M
  unfold Zbh
  walk_at "ds"
  refine Zad ?_
  rw [show (Stg.add x).run z = z ++ [x] from Z3j x z {}] at q
  exact q
 | write x nm ch =>
  obtain ⟨hx, ho, rfl, hl⟩ := o
  show Zbh _ [some (vS ls), some (vS vw), some (vT [.str [119, 114, 105, 116, 101], .str [x], .str nm]), some (vS z), none, none, none, none, none, none] M
  unfold Zbh
  walk_at "ds"
  refine iteF ?_
  walk_at "ds"
  refine ⟨ls, vw, nm, rfl, hls, hl, ?_⟩
  walk_at "ds"
  refine Z2y (fun c => .str (if c ∈ mem ls vw nm then [x] else [c])) (by omega) (fun c Q' hc q' => ?_) ?_
  ·walk_at "ds"
   refine ite2 (fun h => ?_) (fun h => ?_)
   ·rw [if_pos (of_decide_eq_true h)] at q'
    walk_at "ds"
    exact q'
   ·rw [if_neg fun w => h (decide_eq_true w)] at q'
    walk_at "ds"
    exact q'
  walk_at "ds"
  rw [show (Stg.write x nm (mem ls vw nm)).run z = _ from Zsa x nm _ z {}] at q
  have e : (z.map fun c => PV.str (if c ∈ mem ls vw nm then [x] else [c])) = (z.map fun c => if c ∈ mem ls vw nm then [x] else [c]).map PV.str := by rw [Qq]; rfl
  rw [e]
  refine jn ?_ (Zad q)
  have : ∀ y : List Nat, ((y.map fun c => if c ∈ mem ls vw nm then [x] else [c]).map List.length).sum = y.length := fun y => by
   induction y with
   | nil => rfl
   | cons c y ih =>
    rw [Q3, Q3, Hz, ih, Qe]
    split <;> simp <;> omega
  rw [this]
  omega
 | once nm ch =>
  obtain ⟨ho, rfl, hl⟩ := o
  show Zbh _ [some (vS ls), some (vS vw), some (vT [.str [111, 110, 99, 101], .str nm]), some (vS z), none, none, none, none, none, none] M
  unfold Zbh
  walk_at "ds"
  refine iteF ?_
  walk_at "ds"
  refine iteF ?_
  walk_at "ds"
  refine ⟨ls, vw, nm, rfl, hls, hl, ?_⟩
  walk_at "ds"
  refine ⟨_, rfl, by omega, by omega, ?_⟩
  rw [Ha]
  have er : (Stg.once nm (mem ls vw nm)).run z = Zq0 (mem ls vw nm) [] z := Zxh nm _ z {}
  rw [er] at q
  refine Za9 (fun j ds M2 => ∃ (res : List Nat) (v5 v8 v9 : Option D), M2 = M ∧ ds = [some (vS ls), some (vS vw), some (vT [.str [111, 110, 99, 101], .str nm]), some (vS z), some (vS (mem ls vw nm)), v5, some (vS res), some (vI 0), v8, v9] ∧ res ++ Zq0 (mem ls vw nm) (if j = 0 then [] else (z.drop (j - 1)).take 1) (z.drop j) = Zq0 (mem ls vw nm) [] z)
   ⟨[], none, none, none, rfl, rfl, rfl⟩ ?_ ?_
  ·rintro j x ds M2 N hx ⟨res, v5, v8, v9, rfl, rfl, hr⟩ hN
   have hj : j < z.length := by
    have := (Qa.mp hx).1
    simpa using this
   obtain rfl := Zi0 hx
   have hrl : res.length ≤ 1000 := by
    have := Zto (mem ls vw nm) z []
    rw [← hr, Qc] at this
    omega
   have hzj : z.drop j = z[j] :: z.drop (j + 1) := Qw hj
   have ht : (z.drop j).take 1 = [z[j]] := by rw [hzj]; rfl
   walk_at "ds"
   refine Zrb (by walk_at "sz") (Zun (j := j) rfl (Qf hj)) ?_
   walk_at "ds"
   rw [hzj, Zq0] at hr
   refine Zvt (fun ds' M' => M' = M2 ∧ ∃ g : Bool, ds' = [some (vS ls), some (vS vw), some (vT [.str [111, 110, 99, 101], .str nm]), some (vS z), some (vS (mem ls vw nm)), some (vS [z[j]]), some (vS res), some (vI 0), some (vI j), some (vB g)] ∧ g = decide ([z[j]] = (if j = 0 then [] else (z.drop (j - 1)).take 1) ∧ z[j] ∈ mem ls vw nm)) ?_ ?_
   ·walk_at "ds"
    by_cases h0 : j = 0
    ·rw [decide_eq_false (by omega)]
     refine iteF ?_
     walk_at "ds"
     exact ⟨rfl, false, rfl, by rw [if_pos h0]; simp⟩
    ·rw [decide_eq_true (by omega)]
     refine iteT ?_
     walk_at "ds"
     have hj1 : j - 1 < z.length := by omega
     refine Zrb (by walk_at "sz") (Zun (j := j - 1) (by omega) (Qf hj1)) ?_
     walk_at "ds"
     have ht1 : (z.drop (j - 1)).take 1 = [z[j - 1]] := by rw [Qw hj1]; rfl
     by_cases he : [z[j - 1]] = [z[j]]
     ·rw [decide_eq_true he]
      refine iteT ?_
      walk_at "ds"
      exact ⟨rfl, _, rfl, by rw [if_neg h0, ht1, he]; simp⟩
     ·rw [decide_eq_false he]
      refine iteF ?_
      walk_at "ds"
      exact ⟨rfl, false, rfl, by rw [if_neg h0, ht1, decide_eq_false]; exact fun w => he w.1.symm⟩
   ·rintro ds' M' ⟨rfl, g, rfl, hg⟩
    cases g with
    | true =>
     rw [if_pos (of_decide_eq_true hg.symm), Hw] at hr
     walk_at "ds"
     refine hN _ _ ⟨res, _, _, _, rfl, rfl, ?_⟩
     rw [if_neg (by omega), G0, ht]
     exact hr
    | false =>
     rw [if_neg (of_decide_eq_false hg.symm)] at hr
     walk_at "ds"
     refine hN _ _ ⟨res ++ [z[j]], _, _, _, rfl, rfl, ?_⟩
     rw [if_neg (by omega), G0, ht, Q6]
     exact hr
  ·rintro ds M2 ⟨res, v5, v8, v9, rfl, rfl, hr⟩
   walk_at "ds"
   have hlen : ((List.range z.length).map fun (k : Nat) => vI k).length = z.length := by simp
   rw [hlen, Hl] at hr
   rw [show Zq0 (mem ls vw nm) _ [] = [] from rfl, Qx] at hr
   rw [hr]
   exact Zad q
 | drop nm ch a e l =>
  obtain ⟨ho, rfl, hl, ha⟩ := o
  show Zbh _ [some (vS ls), some (vS vw), some (vT [.str [100, 114, 111, 112], .str nm, .int a, .bl e, .bl l]), some (vS z), none, none, none, none, none, none] M
  unfold Zbh
  walk_at "ds"
  refine iteF ?_
  walk_at "ds"
  refine iteF ?_
  walk_at "ds"
  refine ⟨ls, vw, nm, rfl, hls, hl, ?_⟩
  walk_at "ds"
  refine ⟨_, rfl, by omega, by omega, ?_⟩
  rw [Ha]
  rw [Z5j] at q
  refine Za9 (fun j ds M2 => ∃ (res : List Nat) (k : Nat) (v5 v8 v9 : Option D), M2 = M ∧ ds = [some (vS ls), some (vS vw), some (vT [.str [100, 114, 111, 112], .str nm, .int a, .bl e, .bl l]), some (vS z), some (vS (mem ls vw nm)), v5, some (vS res), some (vI k), v8, v9] ∧ res ++ lapp (mem ls vw nm) a e l k (z.drop j) = lapp (mem ls vw nm) a e l 0 z)
   ⟨[], 0, none, none, none, rfl, rfl, rfl⟩ ?_ ?_
  ·rintro j x ds M2 N hx ⟨res, k, v5, v8, v9, rfl, rfl, hr⟩ hN
   have hj : j < z.length := by
    have := (Qa.mp hx).1
    simpa using this
   obtain rfl := Zi0 hx
   have hrl : res.length ≤ 1000 := by
    have := Zxm (mem ls vw nm) a e l z 0
    rw [← hr, Qc] at this
    omega
   have hzj : z.drop j = z[j] :: z.drop (j + 1) := Qw hj
   rw [hzj, lapp] at hr
   walk_at "ds"
   refine Zrb (by walk_at "sz") (Zun (j := j) rfl (Qf hj)) ?_
   walk_at "ds"
   refine Zvt (fun ds' M' => M' = M2 ∧ ∃ (k' : Nat) (g : Bool), ds' = [some (vS ls), some (vS vw), some (vT [.str [100, 114, 111, 112], .str nm, .int a, .bl e, .bl l]), some (vS z), some (vS (mem ls vw nm)), some (vS [z[j]]), some (vS res), some (vI k'), some (vI j), some (vB g)] ∧ k' = (if e = true ∧ z[j] = 45 then 0 else k + 1) ∧ g = decide ((z[j] ∈ mem ls vw nm ∧ a < k') ∧ ¬ (l = true ∧ z.drop (j + 1) = []) ∧ ¬ (l = true ∧ e = true ∧ (z.drop (j + 1)).head? = some 45))) ?_ ?_
   ·walk_at "ds"
    refine iteF ?_
    walk_at "ds"
    refine Zvt (fun ds' M' => M' = M2 ∧ ∃ (k' : Nat), ds' = [some (vS ls), some (vS vw), some (vT [.str [100, 114, 111, 112], .str nm, .int a, .bl e, .bl l]), some (vS z), some (vS (mem ls vw nm)), some (vS [z[j]]), some (vS res), some (vI k'), some (vI j), v9] ∧ k' = (if e = true ∧ z[j] = 45 then 0 else k + 1)) ?_ ?_
    ·walk_at "ds"
     cases he : e with
     | true =>
      refine iteT ?_
      walk_at "ds"
      refine ite2 (fun h => ?_) (fun h => ?_)
      ·have h' := of_decide_eq_true h
       walk_at "ds"
       exact ⟨rfl, 0, rfl, by rw [if_pos ⟨rfl, by simpa using h'⟩]⟩
      ·walk_at "ds"
       exact ⟨rfl, k + 1, rfl, by rw [if_neg fun w => h (decide_eq_true (by rw [w.2]))]⟩
     | false =>
      refine iteF ?_
      walk_at "ds"
      exact ⟨rfl, k + 1, rfl, by rw [if_neg fun w => by cases w.1]⟩
    ·rintro ds' M' ⟨rfl, k', rfl, hk'⟩
     walk_at "ds"
     have tail : ∀ g0 : Bool, g0 = decide (z[j] ∈ mem ls vw nm ∧ a < k') → dCut (dIfS (dAnd (dTru (dOp uIx (dVar 2) (dC (.int 4)))) (Zae (dOp uEq (dVar 8) (dOp uSub (dCB uLen (Zaa (dVar 3) dNil)) (dC (.int 1)))))) (dAsg (dC (.bl false)) (hName 9)) Zaf) (dIfS (dAnd (dTru (dOp uIx (dVar 2) (dC (.int 4)))) (dAnd (dTru (dOp uIx (dVar 2) (dC (.int 3)))) (Zae (dOp uEq (dSl uSl (dVar 3) (Zej (dOp uAdd (dVar 8) (dC (.int 1)))) (Zej (dOp uAdd (dVar 8) (dC (.int 2))))) (dC (.str [45])))))) (dAsg (dC (.bl false)) (hName 9)) Zaf)
       { nx := fun ds' M'' => M'' = M' ∧ ∃ (k' : Nat) (g : Bool), ds' = [some (vS ls), some (vS vw), some (vT [.str [100, 114, 111, 112], .str nm, .int a, .bl e, .bl l]), some (vS z), some (vS (mem ls vw nm)), some (vS [z[j]]), some (vS res), some (vI k'), some (vI j), some (vB g)] ∧ k' = (if e = true ∧ z[j] = 45 then 0 else k + 1) ∧ g = decide ((z[j] ∈ mem ls vw nm ∧ a < k') ∧ ¬ (l = true ∧ z.drop (j + 1) = []) ∧ ¬ (l = true ∧ e = true ∧ (z.drop (j + 1)).head? = some 45)), rt := Zab M' Q, bk := dRet (dVar 6) { nx := fun _ M'' => Zab M' Q (.v .non) M'', rt := Zab M' Q }, ct := N }
       [some (vS ls), some (vS vw), some (vT [.str [100, 114, 111, 112], .str nm, .int a, .bl e, .bl l]), some (vS z), some (vS (mem ls vw nm)), some (vS [z[j]]), some (vS res), some (vI k'), some (vI j), some (vB g0)] M' := by
      intro g0 hg0
      refine Zvt (fun ds' M'' => M'' = M' ∧ ∃ g : Bool, ds' = [some (vS ls), some (vS vw), some (vT [.str [100, 114, 111, 112], .str nm, .int a, .bl e, .bl l]), some (vS z), some (vS (mem ls vw nm)), some (vS [z[j]]), some (vS res), some (vI k'), some (vI j), some (vB g)] ∧ g = decide ((z[j] ∈ mem ls vw nm ∧ a < k') ∧ ¬ (l = true ∧ z.drop (j + 1) = []))) ?_ ?_
      ·walk_at "ds"
       cases hll : l with
       | false =>
        refine iteF ?_
        walk_at "ds"
        exact ⟨rfl, g0, rfl, by rw [hg0]; simp⟩
       | true =>
        refine iteT ?_
        walk_at "ds"
        have ed : (z.drop (j + 1) = []) ↔ (j : Int) = (z.length : Int) - 1 := by
         rw [Gp]
         omega
        refine ite2 (fun h => ?_) (fun h => ?_)
        ·have h' := of_decide_eq_true h
         walk_at "ds"
         exact ⟨rfl, false, rfl, by rw [decide_eq_false]; rintro ⟨_, h2⟩; exact h2 ⟨rfl, ed.mpr h'⟩⟩
        ·have h' : ¬ (z.drop (j + 1) = []) := fun w => h (decide_eq_true (ed.mp w))
         walk_at "ds"
         exact ⟨rfl, g0, rfl, by rw [hg0]; simp only [h', and_false, not_false_eq_true, and_true]⟩
      ·rintro ds' M'' ⟨rfl, g1, rfl, hg1⟩
       walk_at "ds"
       cases hll : l with
       | false =>
        refine iteF ?_
        walk_at "ds"
        exact ⟨rfl, k', g1, rfl, hk', by rw [hg1, hll]; simp⟩
       | true =>
        refine iteT ?_
        walk_at "ds"
        cases hee : e with
        | false =>
         refine iteF ?_
         walk_at "ds"
         exact ⟨rfl, k', g1, rfl, by rw [hee] at hk'; exact hk', by rw [hg1, hll]; simp⟩
        | true =>
         refine iteT ?_
         walk_at "ds"
         rw [cut1, Z3z]
         refine ite2 (fun h => ?_) (fun h => ?_)
         ·have h' := of_decide_eq_true h
          walk_at "ds"
          exact ⟨rfl, k', false, rfl, by rw [hee] at hk'; exact hk', by rw [decide_eq_false]; rintro ⟨_, _, h2⟩; exact h2 ⟨rfl, rfl, h'⟩⟩
         ·have h' : ¬ ((z.drop (j + 1)).head? = some 45) := fun w => h (decide_eq_true w)
          walk_at "ds"
          exact ⟨rfl, k', g1, rfl, by rw [hee] at hk'; exact hk', by rw [hg1, hll]; simp only [h', and_false, not_false_eq_true, and_true]⟩
     refine ite2 (fun h => ?_) (fun h => ?_)
     ·have h1 := of_decide_eq_true h
      walk_at "ds"
      exact tail _ (by rw [Q7]; simp only [decide_eq_true_eq]; constructor <;> intro w <;> first | exact ⟨h1, by omega⟩ | omega)
     ·have h1 : ¬ z[j] ∈ mem ls vw nm := fun w => h (decide_eq_true w)
      walk_at "ds"
      exact tail false (by rw [decide_eq_false]; exact fun w => h1 w.1)
   ·rintro ds' M' ⟨rfl, k', g, rfl, hk', hg⟩
    rw [← hk'] at hr
    cases g with
    | true =>
     rw [if_pos (of_decide_eq_true hg.symm), Hw] at hr
     walk_at "ds"
     exact hN _ _ ⟨res, k', _, _, _, rfl, rfl, hr⟩
    | false =>
     rw [if_neg (of_decide_eq_false hg.symm)] at hr
     walk_at "ds"
     refine hN _ _ ⟨res ++ [z[j]], k', _, _, _, rfl, rfl, ?_⟩
     rw [Q6]
     exact hr
  ·rintro ds M2 ⟨res, k, v5, v8, v9, rfl, rfl, hr⟩
   walk_at "ds"
   have hlen : ((List.range z.length).map fun (k : Nat) => vI k).length = z.length := by simp
   rw [hlen, Hl] at hr
   rw [show lapp (mem ls vw nm) a e l _ [] = [] from rfl, Qx] at hr
   rw [hr]
   exact Zad q
section
variable {M : Mem} {Q : DQ} {X : DX} {b : Nat} {ls vw z nm : List Nat}
theorem Yg1 {ns : List Int} (h : ∀ c, Zy9 c → Bg (M ++ [some c]) M.length → Q (.cell M.length) (M ++ [some c])) : Zm5 [.v (.scr ns)] M Q X := ⟨ns, rfl, fun c hc => h c hc ⟨c, Qi .., hc⟩⟩
theorem Z25 (top : Nat) (hb : Bg M b) (h1 : 1 ≤ top) (h8 : top ≤ 8) (h : ∀ ls M', okL ls → ls.Pairwise (· < ·) → ls.length ≤ top → Bd b M M' → Bg M' b → Q (vS ls) M') : Zea [.cell b, vI top] M Q X := ⟨b, top, rfl, hb, h1, h8, fun ls M' a c e d => h ls M' a c e d (d.bg hb)⟩
theorem Z5t (hb : Bg M b) (hl : ls.length ≤ 26) (h : ∀ vw M', vw.Sublist ls → Bd b M M' → Bg M' b → Q (vS vw) M') : Ze2 [.cell b, vS ls] M Q X := ⟨b, ls, rfl, hb, hl, fun vw M' a d => h vw M' a d (d.bg hb)⟩
theorem Z24 (hb : Bg M b) (asc : ls.Pairwise (· < ·)) (ol : okL ls) (h : ∀ z M', okN ls z → z.length ≤ 60 → Bd b M M' → Bg M' b → Q (vS z) M') : Zfh [.cell b, vS ls] M Q X := ⟨b, ls, rfl, hb, asc, ol.1, ol.2.2.1, fun z M' a c d => h z M' a c d (d.bg hb)⟩
theorem Yed {sg : List Nat} (top : Nat) (hb : Bg M b) (h1 : 1 ≤ sg.length) (h2 : sg.length ≤ 60) (ht : top ≤ 60) (h : ∀ z M', (∀ c ∈ z, c ∈ sg) → z.length ≤ top → Bd b M M' → Bg M' b → Q (vS z) M') : Zib [.cell b, vS sg, vI top] M Q X := ⟨b, sg, top, rfl, hb, h1, h2, ht, fun z M' a c d => h z M' a c d (d.bg hb)⟩
theorem Zw1 {l : List Nat} (h : l.Pairwise (· < ·)) : srt l = l := Ya7 (Lp l) h
theorem Z5v (hl : ls.Pairwise (· < ·)) (hv : vw.Sublist ls) : PV.obj .Alphabet [.str (srt ls), .str (srt vw), .str (cons (srt ls) vw), .str (45 :: srt ls)] = alph ls vw := by
 rw [Zw1 hl, Zw1 (hl.sublist hv)]
 rfl
theorem Yeg (ol : okL ls) (asc : ls.Pairwise (· < ·)) (sub : vw.Sublist ls) (h : Q (.v (alph ls vw)) M) : Zbt [.cell M.length, vS ls, vS vw] (M ++ [some (.obj .Alphabet [])]) (mkQ .Alphabet M Q) X := by
 have ov : okV ls vw := ⟨fun c hc => sub.subset hc, (Zh1 asc).sublist sub⟩
 have h1 := ol.2.2.1
 have h2 := sub.length_le
 refine ⟨M.length, ls, vw, rfl, Qi .., by omega, by omega, fun n => absurd ol n, fun _ n => absurd ov n, fun _ _ => Zfy ?_⟩
 rw [Z5v asc sub]
 exact h
theorem Z6w {x : Nat} (h : x ∈ 45 :: ls) : okX ls [x] := ⟨rfl, by unfold isW; rw [Gq, decide_eq_true h]; rfl⟩
theorem Ydr (h : ∀ c ∈ z, c ∈ 45 :: ls) : isW ls z = true := Zjo.mpr h
end
def Zd4 (E : DX) : DS :=
 dSeq (Zf4 (dSup (subC .Drop) Zax noX (Zaa (dVar 1) dNil))) (dSeq (dStF (dVar 0) (dVar 2) .name) (dSeq (dStF (dVar 0) (Zc4 Za3 [] E (dVar 1) (Zaa (dVar 2) dNil)) .chosen) (dSeq (dIfS (dNot (Zae (Znh uLe uLe (dC (.int 0)) (dVar 3) (dC (.int 3))))) (Zdc .BadStage E (Zaa (dC (.str [97, 102, 116, 101, 114])) dNil)) Zaf) (dSeq (dStF (dVar 0) (dVar 3) .after) (dStF (dVar 0) (dVar 4) .each)))))
def Zd2 : DS :=
 dSeq (dAsg (dLst (Zaa (dC (.str [100, 114, 111, 112])) (Zaa (dFld (dVar 0) .name) dNil))) (hName 1)) (dCut (dIfS (Zae (dOp uGt (dFld (dVar 0) .after) (dC (.int 0)))) (dAsg (dOp uAdd (dVar 1) (dLst (Zaa (dC (.str [97, 102, 116, 101, 114])) (Zaa (dCB uStr (Zaa (dFld (dVar 0) .after) dNil)) dNil)))) (hName 1)) Zaf) (dCut (dIfS (dTru (dFld (dVar 0) .each)) (dAsg (dOp uAdd (dVar 1) (dLst (Zaa (dC (.str [101, 97, 99, 104])) dNil))) (hName 1)) Zaf) (dRet (dBm tyS Zdn (dC (.str [32])) (Zaa (dVar 1) dNil)))))
def Zfv : DS :=
 dRet (dC (.int 0))
def Zd3 : DS :=
 dSeq (dIfS (dAnd (dTru (dFld (dVar 0) .each)) (Zae (dOp uEq (dVar 2) (dC (.str [45]))))) (dRet (dTup (Zaa (dC (.int 0)) (Zaa (dVar 2) dNil)))) Zaf) (dSeq (dIfS (Zae (dOp uLt (dVar 1) (dFld (dVar 0) .after))) (dRet (dTup (Zaa (dOp uAdd (dVar 1) (dC (.int 1))) (Zaa (dVar 2) dNil)))) Zaf) (dSeq (dIfS (Zae (dOp uIn (dVar 2) (dFld (dVar 0) .chosen))) (dRet (dTup (Zaa (dVar 1) (Zaa (dC (.str [])) dNil)))) Zaf) (dRet (dTup (Zaa (dVar 1) (Zaa (dVar 2) dNil))))))
def Zi7 : DS :=
 dRet (dC (.str []))
def Zbl (E : DX) : DS :=
 Zf4 (Z96 (subC .LastDrop) 2 2 Zbs E (Zaa (dVar 1) (Zaa (dVar 2) dNil)) (Zaa (dVar 3) (Zaa (dVar 4) dNil)))
def Zbj : DS :=
 dRet (dOp uAdd (dSup (subC .LastDrop) Zba noX dNil) (dC (.str [32, 98, 117, 116, 32, 108, 97, 115, 116])))
def Zbd : DS :=
 dRet (dTup (Zaa (dSup (subC .LastDrop) Zay noX dNil) (Zaa (dC (.str [])) dNil)))
def Zbk : DS :=
 dSeq (dAsg (dVar 1) (hTup 2 (Zjp (hName 3) (Zjp (hName 4) hNil)))) (dSeq (dAsg (dSup (subC .LastDrop) Zbb noX (Zaa (dVar 3) (Zaa (dVar 2) dNil))) (hTup 2 (Zjp (hName 3) (Zjp (hName 5) hNil)))) (dSeq (dIfS (dAnd (dTru (dFld (dVar 0) .each)) (Zae (dOp uEq (dVar 2) (dC (.str [45]))))) (dRet (dTup (Zaa (dTup (Zaa (dVar 3) (Zaa (dC (.str [])) dNil))) (Zaa (dOp uAdd (dVar 4) (dVar 5)) dNil)))) Zaf) (dSeq (dIfS (Zae (dOp uEq (dVar 5) (dC (.str [])))) (dRet (dTup (Zaa (dTup (Zaa (dVar 3) (Zaa (dVar 2) dNil))) (Zaa (dC (.str [])) dNil)))) Zaf) (dRet (dTup (Zaa (dTup (Zaa (dVar 3) (Zaa (dC (.str [])) dNil))) (Zaa (dVar 5) dNil)))))))
def Zbx : DS :=
 dSeq (dAsg (dVar 1) (hTup 2 (Zjp (hName 2) (Zjp (hName 3) hNil)))) (dRet (dOp uAdd (dVar 3) (dSup (subC .LastDrop) Zbw noX (Zaa (dVar 2) dNil))))
theorem Yct {ok : Cn → Bool} {n m : Nat} {g : DSp} {Ed : DX} {a ak : DA} {ds : DSt} {M : Mem} {Q : DQ} {x : D} {k : Cn} {ys : List D} (h0 : ds[0]? = some (some x)) (h1 : obOf M x = some (k, ys)) (h2 : ok k = true) (h : a ds M fun xs M1 => ak ds M1 fun zs M2 => xs.length = n ∧ zs.length = m ∧ g ((x :: xs) ++ zs) M2 Q Ed) : Z96 ok n m g Ed a ak ds M Q := ⟨x, k, ys, h0, h1, h2, h⟩
theorem Zqq (ds : List D) (M : Mem) (Q : DQ) (E : DX) (h : Zbs ds M Q E) : Zd4 E { nx := fun _ M' => Q (.v .non) M', rt := Q } (Zac 5 ds) M := by
 obtain ⟨n, k, ls, vw, z, a, e, rfl, hM, hk, hz, kX, kE, kQ⟩ := h
 show Zd4 E _ [some (.cell n), some (.v (alph ls vw)), some (vS z), some (vI a), some (vB e)] M
 unfold Zd4
 have hn := (Qa.mp hM).1
 have gs : ∀ x : Cell, (M.set n (some x))[n]? = some (some x) := fun x => Qs hn
 walk_at "ds"
 refine Ztu rfl (Zml hM) (by rcases hk with rfl | rfl <;> decide) ?_
 walk_at "ds"
 refine ⟨n, k, _, rfl, hM, by rcases hk with rfl | rfl <;> decide, by rcases hk with rfl | rfl <;> decide, ?_⟩
 walk_at "ds"
 refine k_put (gs _) (by rcases hk with rfl | rfl <;> with_unfolding_all exact rfl) (by rcases hk with rfl | rfl <;> decide) ?_
 rw [Q2]
 walk_at "ds"
 refine k_m Zaz rfl ?_
 walk_at "ds"
 refine ⟨ls, vw, z, rfl, hz, fun o => ?_, fun no => kX no _⟩
 walk_at "ds"
 refine k_put (gs _) (by rcases hk with rfl | rfl <;> with_unfolding_all exact rfl) (by rcases hk with rfl | rfl <;> decide) ?_
 rw [Q2]
 walk_at "ds"
 by_cases h1 : 0 ≤ a
 case neg =>
  rw [decide_eq_false h1]
  walk_at "ds"
  exact ⟨_, rfl, rfl, kE o (fun w => h1 w.1) _⟩
 rw [decide_eq_true h1]
 walk_at "ds"
 by_cases h3 : a ≤ 3
 case neg =>
  rw [decide_eq_false h3]
  walk_at "ds"
  exact ⟨_, rfl, rfl, kE o (fun w => h3 w.2) _⟩
 rw [decide_eq_true h3]
 walk_at "ds"
 obtain ⟨b, rfl⟩ := Int.eq_ofNat_of_zero_le h1
 refine k_put (gs _) (by rcases hk with rfl | rfl <;> with_unfolding_all exact rfl) (by rcases hk with rfl | rfl <;> decide) ?_
 rw [Q2]
 walk_at "ds"
 refine k_put (gs _) (by rcases hk with rfl | rfl <;> with_unfolding_all exact rfl) (by rcases hk with rfl | rfl <;> decide) ?_
 rw [Q2]
 exact kQ b rfl o (by omega) false
theorem Z7m (al : PV) (nm ch : List Nat) (a : Nat) (e l : Bool) : ∃ k, (k = .Drop ∨ k = .LastDrop) ∧ Stg.pv al (.drop nm ch a e l) = .obj k [al, .str nm, .str ch, .int a, .bl e] := by
 cases l
 ·exact ⟨.Drop, Or.inl rfl, rfl⟩
 ·exact ⟨.LastDrop, Or.inr rfl, rfl⟩
theorem Zqo (ds : List D) (M : Mem) (Q : DQ) (E : DX) (h : Zba ds M Q E) : Zd2 { nx := fun _ M' => Zab M Q (.v .non) M', rt := Zab M Q } (Zac 2 ds) M := by
 obtain ⟨al, nm, ch, a, e, l, rfl, hl, ha, q⟩ := h
 obtain ⟨k, hk, ek⟩ := Z7m al nm ch a e l
 rw [ek]
 show Zd2 _ [some (.v (.obj k [al, .str nm, .str ch, .int a, .bl e])), none] M
 unfold Zd2
 have fl : ∀ {n : Nat}, n ≤ 200 → n ≤ sizeLine := fun h => Hb h (by decide)
 walk_at "ds"
 refine Zal rfl (by rcases hk with rfl | rfl <;> with_unfolding_all exact rfl) ?_
 have fin : ∀ zs : List (List Nat), (zs.map List.length).sum + zs.length ≤ 1000 → glue [32] zs = Stg.text (.drop nm ch a e false) → dRet (dBm tyS Zdn (dC (.str [32])) (Zaa (dVar 1) dNil)) { nx := fun _ M' => Zab M Q (.v .non) M', rt := Zab M Q } [some (.v (.obj k [al, .str nm, .str ch, .int a, .bl e])), some (vL (zs.map PV.str))] M := fun zs hz he => by
  walk_at "ds"
  refine Zm0 (zs := zs) rfl (by show _ + _ * 1 ≤ _; omega) ?_
  rw [he]
  exact Zad q
 have two : ∀ zs : List (List Nat), (zs.map List.length).sum + zs.length ≤ 900 → zs.length ≤ 10 → glue [32] (if e = true then zs ++ [[101, 97, 99, 104]] else zs) = Stg.text (.drop nm ch a e false) → dCut (dIfS (dTru (dFld (dVar 0) .each)) (dAsg (dOp uAdd (dVar 1) (dLst (Zaa (dC (.str [101, 97, 99, 104])) dNil))) (hName 1)) Zaf) (dRet (dBm tyS Zdn (dC (.str [32])) (Zaa (dVar 1) dNil))) { nx := fun _ M' => Zab M Q (.v .non) M', rt := Zab M Q } [some (.v (.obj k [al, .str nm, .str ch, .int a, .bl e])), some (vL (zs.map PV.str))] M := fun zs hz hn he => by
  refine Zq9 ?_
  walk_at "ds"
  refine Zal rfl (by rcases hk with rfl | rfl <;> with_unfolding_all exact rfl) ⟨e, rfl, (fun _ w => by cases w), ?_⟩
  cases e with
  | false => exact fin zs (by omega) he
  | true =>
   walk_at "ds"
   refine Zm1 (by rw [Qb]; show zs.length + 1 ≤ sizeLine; rw [sizeLine_eq]; omega) ?_
   have := fin (zs ++ [[101, 97, 99, 104]]) (by simp only [Qv, Lk, Qc, Q3, Gb, Hz, Ll, Qe, Qh]; omega) he
   rw [Qv] at this
   exact this
 walk_at "ds"
 refine Zq9 ?_
 walk_at "ds"
 refine Zal rfl (by rcases hk with rfl | rfl <;> with_unfolding_all exact rfl) ?_
 walk_at "ds"
 refine ite2 (fun h => ?_) (fun h => ?_)
 ·have h1 : 0 < a := by have := of_decide_eq_true h; omega
  walk_at "ds"
  refine Zal rfl (by rcases hk with rfl | rfl <;> with_unfolding_all exact rfl) ?_
  walk_at "ds"
  refine ⟨a, rfl, by rcases (show a = 0 ∨ a = 1 ∨ a = 2 ∨ a = 3 by omega) with rfl | rfl | rfl | rfl <;> decide, ?_⟩
  have hf : figs a = dig a := by rcases (show a = 0 ∨ a = 1 ∨ a = 2 ∨ a = 3 by omega) with rfl | rfl | rfl | rfl <;> decide +kernel
  rw [hf]
  walk_at "ds"
  refine Zm1 (by show 2 + 2 ≤ sizeLine; decide) ?_
  refine two [[100, 114, 111, 112], nm, [97, 102, 116, 101, 114], dig a] (by simp [dig]; omega) (by simp) ?_
  cases e <;> simp [Stg.text, glue, dig, h1]
 ·have h1 : ¬ 0 < a := fun w => h (decide_eq_true (by omega))
  refine two [[100, 114, 111, 112], nm] (by simp; omega) (by simp) ?_
  have h2 : a = 0 := by omega
  cases e <;> simp [Stg.text, glue, h2]
theorem Zn3 (ds : List D) (M : Mem) (Q : DQ) (E : DX) (h : Zay ds M Q E) : Zfv { nx := fun _ M' => Zab M Q (.v .non) M', rt := Zab M Q } (Zac 1 ds) M := by
 obtain ⟨al, nm, ch, a, e, l, rfl, q⟩ := h
 exact Zad (x := .int 0) q
theorem Zs8 (ds : List D) (M : Mem) (Q : DQ) (E : DX) (h : Zbw ds M Q E) : Zi7 { nx := fun _ M' => Zab M Q (.v .non) M', rt := Zab M Q } (Zac 2 ds) M := by
 obtain ⟨al, nm, ch, a, e, l, n, rfl, q⟩ := h
 exact Zad (x := .str []) q
theorem Zqp (ds : List D) (M : Mem) (Q : DQ) (E : DX) (h : Zbb ds M Q E) : Zd3 { nx := fun _ M' => Zab M Q (.v .non) M', rt := Zab M Q } (Zac 3 ds) M := by
 obtain ⟨al, nm, ch, a, e, l, n, c, rfl, q⟩ := h
 obtain ⟨k, hk, ek⟩ := Z7m al nm ch a e l
 rw [ek]
 show Zd3 _ [some (.v (.obj k [al, .str nm, .str ch, .int a, .bl e])), some (vI n), some (vS [c])] M
 unfold Zd3
 unfold Zju Zeo at q
 have next : ¬ (e = true ∧ c = 45) → dSeq (dIfS (Zae (dOp uLt (dVar 1) (dFld (dVar 0) .after))) (dRet (dTup (Zaa (dOp uAdd (dVar 1) (dC (.int 1))) (Zaa (dVar 2) dNil)))) Zaf) (dSeq (dIfS (Zae (dOp uIn (dVar 2) (dFld (dVar 0) .chosen))) (dRet (dTup (Zaa (dVar 1) (Zaa (dC (.str [])) dNil)))) Zaf) (dRet (dTup (Zaa (dVar 1) (Zaa (dVar 2) dNil))))) { nx := fun _ M' => Zab M Q (.v .non) M', rt := Zab M Q } [some (.v (.obj k [al, .str nm, .str ch, .int a, .bl e])), some (vI n), some (vS [c])] M := fun hn => by
  rw [if_neg hn, if_neg hn] at q
  walk_at "ds"
  refine Zal rfl (by rcases hk with rfl | rfl <;> with_unfolding_all exact rfl) ?_
  walk_at "ds"
  refine ite2 (fun h => ?_) (fun h => ?_)
  ·have h1 : n < a := by have := of_decide_eq_true h; omega
   rw [if_pos h1, if_pos h1] at q
   walk_at "ds"
   exact Zad q
  ·have h1 : ¬ n < a := fun w => h (decide_eq_true (by omega))
   rw [if_neg h1, if_neg h1] at q
   walk_at "ds"
   refine Zal rfl (by rcases hk with rfl | rfl <;> with_unfolding_all exact rfl) ?_
   walk_at "ds"
   refine ite2 (fun h => ?_) (fun h => ?_)
   ·rw [if_pos (of_decide_eq_true h)] at q
    walk_at "ds"
    exact Zad q
   ·rw [if_neg fun w => h (decide_eq_true w)] at q
    walk_at "ds"
    exact Zad q
 walk_at "ds"
 refine Zal rfl (by rcases hk with rfl | rfl <;> with_unfolding_all exact rfl) ⟨e, rfl, (fun _ w => by cases w), ?_⟩
 cases e with
 | false =>
  exact next (fun w => nomatch w.1)
 | true =>
  walk_at "ds"
  refine ite2 (fun h => ?_) (fun h => ?_)
  ·have h1 : c = 45 := by simpa using of_decide_eq_true h
   rw [if_pos ⟨rfl, h1⟩, if_pos ⟨rfl, h1⟩] at q
   walk_at "ds"
   exact Zad q
  ·exact next (fun w => h (decide_eq_true (by rw [w.2])))
theorem Zi4 (ds : List D) (M : Mem) (Q : DQ) (E : DX) (h : Za6 ds M Q E) : Zbl E { nx := fun _ M' => Q (.v .non) M', rt := Q } (Zac 5 ds) M := by
 obtain ⟨⟨n', r, e0, hL⟩, h⟩ := h
 have h0 := h
 obtain ⟨n, k, ls, vw, z, a, e, rfl, hM, hk, hz, kX, kE, kQ⟩ := h
 cases e0
 rw [hL] at hM
 cases hM
 show Zbl E _ [some (.cell n'), some (.v (alph ls vw)), some (vS z), some (vI a), some (vB e)] M
 unfold Zbl
 walk_at "ds"
 refine Yct rfl (Zml hL) rfl ?_
 walk_at "ds"
 exact ⟨rfl, rfl, h0⟩
theorem Zi2 (ds : List D) (M : Mem) (Q : DQ) (E : DX) (h : Zas ds M Q E) : Zbj { nx := fun _ M' => Zab M Q (.v .non) M', rt := Zab M Q } (Zac 1 ds) M := by
 obtain ⟨al, st, rfl, ok, ⟨ls, vw, o⟩, q⟩ := h
 cases st with
 | drop nm ch a e l =>
  cases (show l = true from ok)
  show Zbj _ [some (.v (.obj .LastDrop [al, .str nm, .str ch, .int a, .bl e]))] M
  unfold Zbj
  walk_at "ds"
  refine Ztu rfl (show obOf M _ = some (.LastDrop, [.v al, vS nm, vS ch, vI a, vB e]) from rfl) rfl ?_
  refine ⟨al, nm, ch, a, e, true, rfl, o.2.2.1, o.2.2.2, ?_⟩
  have tl : (Stg.text (.drop nm ch a e false)).length ≤ 200 := by
   have := o.2.2.1
   cases e <;> by_cases h : 0 < a <;> simp [Stg.text, dig, h] <;> omega
  walk_at "ds"
  have e2 : Stg.text (.drop nm ch a e true) = Stg.text (.drop nm ch a e false) ++ [32, 98, 117, 116, 32, 108, 97, 115, 116] := by
   simp [Stg.text]
  rw [e2] at q
  exact Zad q
 | _ => exact ok.elim
theorem Zhs (ds : List D) (M : Mem) (Q : DQ) (E : DX) (h : Zap ds M Q E) : Zbd { nx := fun _ M' => Zab M Q (.v .non) M', rt := Zab M Q } (Zac 1 ds) M := by
 obtain ⟨al, st, rfl, ok, q⟩ := h
 cases st with
 | drop nm ch a e l =>
  cases (show l = true from ok)
  show Zbd _ [some (.v (.obj .LastDrop [al, .str nm, .str ch, .int a, .bl e]))] M
  unfold Zbd
  walk_at "ds"
  refine Ztu rfl (show obOf M _ = some (.LastDrop, [.v al, vS nm, vS ch, vI a, vB e]) from rfl) rfl ?_
  refine ⟨al, nm, ch, a, e, true, rfl, ?_⟩
  walk_at "ds"
  exact Zad q
 | _ => exact ok.elim
theorem Zkq (ds : List D) (M : Mem) (Q : DQ) (E : DX) (h : Za0 ds M Q E) : Zbx { nx := fun _ M' => Zab M Q (.v .non) M', rt := Zab M Q } (Zac 4 ds) M := by
 obtain ⟨al, st, s, rfl, ok, hs, q⟩ := h
 cases st with
 | drop nm ch a e l =>
  cases (show l = true from ok)
  show Zbx _ [some (.v (.obj .LastDrop [al, .str nm, .str ch, .int a, .bl e])), some (vT [.int s.n, .str s.w]), none, none] M
  unfold Zbx
  walk_at "ds"
  refine Zka rfl ?_
  refine Zff ?_
  walk_at "ds"
  refine Zff ?_
  walk_at "ds"
  refine Ztv ?_
  walk_at "ds"
  refine Ztu rfl (show obOf M _ = some (.LastDrop, [.v al, vS nm, vS ch, vI a, vB e]) from rfl) rfl ?_
  walk_at "ds"
  refine ⟨al, nm, ch, a, e, true, s.n, rfl, ?_⟩
  refine Ze1 (by have : s.w.length ≤ 1 := hs; rw [sizeLine_eq, Qh]; omega) ?_
  rw [Qx]
  exact Zad q
 | _ => exact ok.elim
theorem Zi3 (ds : List D) (M : Mem) (Q : DQ) (E : DX) (h : Zat ds M Q E) : Zbk { nx := fun _ M' => Zab M Q (.v .non) M', rt := Zab M Q } (Zac 6 ds) M := by
 obtain ⟨al, st, s, c, rfl, ok, hs, q⟩ := h
 cases st with
 | drop nm ch a e l =>
  cases (show l = true from ok)
  show Zbk _ [some (.v (.obj .LastDrop [al, .str nm, .str ch, .int a, .bl e])), some (vT [.int s.n, .str s.w]), some (vS [c]), none, none, none] M
  unfold Zbk
  walk_at "ds"
  refine Zka rfl ?_
  refine Zff ?_
  walk_at "ds"
  refine Zff ?_
  walk_at "ds"
  refine Ztv ?_
  walk_at "ds"
  refine Ztu rfl (show obOf M _ = some (.LastDrop, [.v al, vS nm, vS ch, vI a, vB e]) from rfl) rfl ?_
  walk_at "ds"
  refine ⟨al, nm, ch, a, e, true, s.n, c, rfl, ?_⟩
  refine Zka rfl ?_
  refine Zff ?_
  walk_at "ds"
  refine Zff ?_
  walk_at "ds"
  refine Ztv ?_
  have q' : Q (vT [.tup [.int (Zju ch a e s.n c), .str (if e = true ∧ c = 45 then [] else if Zeo ch a e s.n c = [] then [c] else [])], .str (if true = true ∧ e = true ∧ c = 45 then s.w ++ Zeo ch a e s.n c else Zeo ch a e s.n c)]) M := q
  generalize Zju ch a e s.n c = n' at q'
  have hl := Zm9 ch a e s.n c
  generalize Zeo ch a e s.n c = t at q' hl
  have hw : s.w.length ≤ 1 := hs
  have next : ¬ (e = true ∧ c = 45) → dSeq (dIfS (Zae (dOp uEq (dVar 5) (dC (.str [])))) (dRet (dTup (Zaa (dTup (Zaa (dVar 3) (Zaa (dVar 2) dNil))) (Zaa (dC (.str [])) dNil)))) Zaf) (dRet (dTup (Zaa (dTup (Zaa (dVar 3) (Zaa (dC (.str [])) dNil))) (Zaa (dVar 5) dNil)))) { nx := fun _ M' => Zab M Q (.v .non) M', rt := Zab M Q } [some (.v (.obj .LastDrop [al, .str nm, .str ch, .int a, .bl e])), some (vT [.int s.n, .str s.w]), some (vS [c]), some (vI n'), some (vS s.w), some (vS t)] M := fun hn => by
   rw [if_neg hn, if_neg (show ¬ (true = true ∧ e = true ∧ c = 45) from fun w => hn w.2)] at q'
   walk_at "ds"
   refine ite2 (fun h => ?_) (fun h => ?_)
   ·have h1 : t = [] := of_decide_eq_true h
    rw [if_pos h1, h1] at q'
    walk_at "ds"
    exact Zad q'
   ·rw [if_neg fun w => h (decide_eq_true w)] at q'
    walk_at "ds"
    exact Zad q'
  walk_at "ds"
  refine Zal rfl (by with_unfolding_all exact rfl) ⟨e, rfl, (fun _ w => by cases w), ?_⟩
  cases e with
  | false => exact next (fun w => nomatch w.1)
  | true =>
   walk_at "ds"
   refine ite2 (fun h => ?_) (fun h => ?_)
   ·have h1 : c = 45 := by simpa using of_decide_eq_true h
    rw [if_pos ⟨rfl, h1⟩, if_pos ⟨rfl, rfl, h1⟩] at q'
    walk_at "ds"
    exact Zad q'
   ·exact next (fun w => h (decide_eq_true (by rw [w.2])))
 | _ => exact ok.elim
def Zf0 : DSp := fun ds M Q _ => ∃ (b : Nat) (ls vw : List Nat), ds = [.cell b, vS ls] ∧ Bg M b ∧ ls.Pairwise (· < ·) ∧ okL ls ∧ ∀ st M', Stg.ok ls vw st → Bd b M M' → Q (.v st.tup) M'
section
variable (ds : List D) (M : Mem) (Q : DQ) (E : DX)
theorem Zq1 (h : Zf0 ds M Q E) : ds.length = 2 := by obtain ⟨_, _, _, rfl, _⟩ := h; rfl
end
abbrev Zhh : List Nat := [116, 101, 120, 116]
abbrev Zes : List Nat := [101, 97, 99, 104]
abbrev Zfm : List Nat := [98, 117, 116]
abbrev Zct : List Nat := [108, 97, 115, 116]
abbrev Zsc : List Nat := [100, 114, 111, 112]
abbrev Zlo : List Nat := [119, 114, 105, 116, 101]
abbrev Zzl : List Nat := [102, 111, 114]
abbrev Zsb : List Nat := [111, 110, 99, 101]
abbrev Zzm : List Nat := [97, 100, 100]
instance (ls z : List Nat) : Decidable (okS ls z) := by unfold okS; infer_instance
instance (ls z : List Nat) : Decidable (okN ls z) := by unfold okN; infer_instance
instance (ls z : List Nat) : Decidable (okX ls z) := by unfold okX; infer_instance
def numT (n : List Nat) : Option Nat := if n = [49] then some 1 else if n = [50] then some 2 else if n = [51] then some 3 else none
theorem Z1q (n : List Nat) : lkT NUMS n = (numT n).map fun k => (k : Int) := by
 unfold numT
 by_cases h1 : n = [49]
 ·subst h1; rfl
 ·by_cases h2 : n = [50]
  ·subst h2; rfl
  ·by_cases h3 : n = [51]
   ·subst h3; rfl
   ·rw [if_neg h1, if_neg h2, if_neg h3]
    unfold lkT
    rw [G8 (by simpa using fun e => h1 e.symm), G8 (by simpa using fun e => h2 e.symm), G8 (by simpa using fun e => h3 e.symm)]
    rfl
theorem Z1e {n : List Nat} {k : Nat} (h : numT n = some k) : k ≤ 3 ∧ 1 ≤ k ∧ n = dig k := by
 unfold numT at h
 split at h
 ·cases h; rename_i e; exact ⟨by decide, by decide, e⟩
 ·split at h
  ·cases h; rename_i e; exact ⟨by decide, by decide, e⟩
  ·split at h
   ·cases h; rename_i e; exact ⟨by decide, by decide, e⟩
   ·cases h
def Za7 : List (List Nat) → Option (List Nat) × List (List Nat)
 | w :: n :: r => if w = txAf then (some n, r) else (none, w :: n :: r)
 | ps => (none, ps)
def Zch : List (List Nat) → Bool × List (List Nat)
 | w :: r => if w = Zes then (true, r) else (false, w :: r)
 | [] => (false, [])
def Ztd (ls vw nm : List Nat) (e l : Bool) : Option (List Nat) → List Nat ⊕ Stg
 | none => .inr (.drop nm (mem ls vw nm) 0 e l)
 | some n => match numT n with
  | some k => .inr (.drop nm (mem ls vw nm) k e l)
  | none => .inl txAf
def Zj6 (ls vw nm : List Nat) (ps : List (List Nat)) : List Nat ⊕ Stg :=
 if (Zch (Za7 ps).2).2 = [] ∨ (Zch (Za7 ps).2).2 = [Zfm, Zct] then
  if okN ls nm then Ztd ls vw nm (Zch (Za7 ps).2).1 (decide ((Zch (Za7 ps).2).2 ≠ [])) (Za7 ps).1 else .inl txS
 else .inl Zhh
def Zme (ls vw x nm : List Nat) : List Nat ⊕ Stg := if okX ls x then if okN ls nm then .inr (.write (x.headD 0) nm (mem ls vw nm)) else .inl txS else .inl txSg
def Ztc (ls vw nm : List Nat) : List Nat ⊕ Stg := if okN ls nm then .inr (.once nm (mem ls vw nm)) else .inl txS
def Z05 (ls x : List Nat) : List Nat ⊕ Stg := if okX ls x then .inr (.add (x.headD 0)) else .inl txSg
def rdWr (ls vw x : List Nat) : List (List Nat) → List Nat ⊕ Stg
 | [f, n] => if f = Zzl then Zme ls vw x n else .inl Zhh
 | _ => .inl Zhh
def rdOn (ls vw nm : List Nat) : List (List Nat) → List Nat ⊕ Stg
 | [] => Ztc ls vw nm
 | _ => .inl Zhh
def rdAd (ls x : List Nat) : List (List Nat) → List Nat ⊕ Stg
 | [] => Z05 ls x
 | _ => .inl Zhh
def rdW (ls vw : List Nat) : List (List Nat) → List Nat ⊕ Stg
 | w :: nm :: ps => if w = Zsc then Zj6 ls vw nm ps else if w = Zlo then rdWr ls vw nm ps else if w = Zsb then rdOn ls vw nm ps else if w = Zzm then rdAd ls nm ps else .inl Zhh
 | _ => .inl Zhh
def Z4k (al : PV) (M : Mem) (Q : DQ) (E : DX) : List Nat ⊕ Stg → Prop
 | .inl w => E ⟨.BadStage, [.str w]⟩ M
 | .inr st => Q (.v (st.pv al)) M
def Zfg : DSp := fun ds M Q E => ∃ ls vw nm ps, ds = [.v (alph ls vw), vS nm, vL (ps.map PV.str)] ∧ nm.length ≤ 60 ∧ asc3 ps ∧ Z4k (alph ls vw) M Q E (Zj6 ls vw nm ps)
def Zc2 : DSp := fun ds M Q E => ∃ ls vw z, ds = [.v (alph ls vw), vS z] ∧ z.length ≤ 1000 ∧ (∀ p ∈ wds z, p.length ≤ 60) ∧ (∀ c ∈ z, c < 1114112) ∧ Z4k (alph ls vw) M Q E (rdW ls vw (wds z))
theorem Zmn (ds : List D) (M : Mem) (Q : DQ) (E : DX) (h : Zfg ds M Q E) : ds.length = 3 := by obtain ⟨_, _, _, _, rfl, _⟩ := h; rfl
theorem Zkw (ds : List D) (M : Mem) (Q : DQ) (E : DX) (h : Zc2 ds M Q E) : ds.length = 2 := by obtain ⟨_, _, _, rfl, _⟩ := h; rfl
theorem Z5r {α : Type} (z : List α) (k : Nat) : cut z none (some (k : Int)) = z.take k := by
 unfold cut
 rw [HT.sIx_nat]
 show (z.drop (HT.sIx z.length 0 none)).take (min k z.length - HT.sIx z.length 0 none) = _
 rw [show HT.sIx z.length 0 none = 0 from rfl, List.drop_zero, Nat.sub_zero]
 by_cases h : k ≤ z.length
 ·rw [Gv h]
 ·rw [L3 (by omega), Q9, Td (by omega)]
theorem Yah {α : Type} (z : List α) (k : Nat) : cut z (some (k : Int)) none = z.drop k := by
 unfold cut
 rw [HT.sIx_nat]
 show (z.drop (min k z.length)).take (z.length - min k z.length) = _
 by_cases h : k ≤ z.length
 ·rw [Gv h, Td (by simp)]
 ·rw [L3 (by omega), Hl, List.take_nil, Gk (by omega)]
theorem Zpn (b : List Nat) : ∀ (z : List Nat) (k : Nat) (acc : List Nat), ∀ p ∈ TL.spl b k acc z, ∀ c ∈ p, c ∈ acc ∨ c ∈ z
 | [], k, acc, p, hp, c, hc => by
  rw [TL.spl_nil] at hp
  rw [Qj.mp hp] at hc
  exact Or.inl hc
 | d :: z, 0, acc, p, hp, c, hc => by
  have hp' : p ∈ (if TL.pre b (d :: z) = true then acc :: TL.spl b (b.length - 1) [] z else TL.spl b 0 (acc ++ [d]) z) := hp
  split at hp'
  ·rcases Qg.mp hp' with rfl | hp'
   ·exact Or.inl hc
   ·rcases Zpn b z _ [] p hp' c hc with h | h
    ·cases h
    ·exact Or.inr (Qk _ h)
  ·rcases Zpn b z 0 _ p hp' c hc with h | h
   ·rcases Q1.mp h with h | h
    ·exact Or.inl h
    ·exact Or.inr (by rw [Qj.mp h]; exact Qo)
   ·exact Or.inr (Qk _ h)
 | d :: z, k + 1, acc, p, hp, c, hc => by
  rcases Zpn b z k acc p hp c hc with h | h
  ·exact Or.inl h
  ·exact Or.inr (Qk _ h)
theorem Yao {b z : List Nat} (h : ∀ c ∈ z, c < 1114112) : asc3 (TL.spl b 0 [] z) := fun p hp c hc => by
 rcases Zpn b z 0 [] p hp c hc with h' | h'
 ·cases h'
 ·exact h c h'
def Zgq : Kd → Option Bool
 | .c .Alphabet => some true
 | _ => none
def Zcg : DS :=
 dRet (Zru (dCB (uIsi Zgq (.cls .Alphabet)) (Zaa (dVar 1) (Zaa (dC (.cls .Alphabet)) dNil))) (Zru (dOp uEq (dFld (dVar 0) .letters) (dFld (dVar 1) .letters)) (dOp uEq (dFld (dVar 0) .vowels) (dFld (dVar 1) .vowels))))
def Zds (E : DX) : DS :=
 dSeq (dAsg (dC .non) (hName 3)) (dCut (dIfS (dAnd (Zae (dOp uEq (dSl uSl (dVar 2) Zci (Zej (dC (.int 1)))) (dLst (Zaa (dC (.str [97, 102, 116, 101, 114])) dNil)))) (Zae (dOp uGt (dCB uLen (Zaa (dVar 2) dNil)) (dC (.int 1))))) (dSeq (dAsg (dOp uIx (dVar 2) (dC (.int 1))) (hName 3)) (dAsg (dSl uSl (dVar 2) (Zej (dC (.int 2))) Zci) (hName 2))) Zaf) (dSeq (dAsg (dOp uEq (dSl uSl (dVar 2) Zci (Zej (dC (.int 1)))) (dLst (Zaa (dC (.str [101, 97, 99, 104])) dNil))) (hName 4)) (dCut (dIfS (dTru (dVar 4)) (dAsg (dSl uSl (dVar 2) (Zej (dC (.int 1))) Zci) (hName 2)) Zaf) (dSeq (dIfS (Zae (dOp (Z73 true) (dVar 2) (dTup (Zaa (dLst dNil) (Zaa (dLst (Zaa (dC (.str [98, 117, 116])) (Zaa (dC (.str [108, 97, 115, 116])) dNil))) dNil))))) (Zdc .BadStage E (Zaa (dC (.str [116, 101, 120, 116])) dNil)) Zaf) (dSeq (Zf4 (Zc4 Za3 [] E (dVar 0) (Zaa (dVar 1) dNil))) (dSeq (dIfS (dAnd (Zae (dOp Zor (dVar 3) (dC .non))) (Zae (dUn (Zuy NUMS) (dVar 3)))) (Zdc .BadStage E (Zaa (dC (.str [97, 102, 116, 101, 114])) dNil)) Zaf) (dSeq (dAsg (dIf (Zae (dOp uIs (dVar 3) (dC .non))) (dC (.int 0)) (dUn (Z74 NUMS) (dVar 3))) (hName 5)) (dSeq (dIfS (dTru (dVar 2)) (dRet (Zud .LastDrop 2 2 Za6 E (Zaa (dVar 0) (Zaa (dVar 1) dNil)) (Zaa (dVar 5) (Zaa (dVar 4) dNil)))) Zaf) (dRet (Zud .Drop 2 2 Zbs E (Zaa (dVar 0) (Zaa (dVar 1) dNil)) (Zaa (dVar 5) (Zaa (dVar 4) dNil))))))))))))
def Zcv (E : DX) : DS :=
 dSeq (dAsg (dBm tyS Zwv (dVar 1) (Zaa (dC (.str [32])) dNil)) (hName 2)) (dSeq (dIfS (dAnd (Zae (dOp uEq (dOp uIx (dVar 2) (dC (.int 0))) (dC (.str [100, 114, 111, 112])))) (Zae (dOp uGt (dCB uLen (Zaa (dVar 2) dNil)) (dC (.int 1))))) (dRet (Zau Zfg E (Zaa (dVar 0) (Zaa (dOp uIx (dVar 2) (dC (.int 1))) (Zaa (dSl uSl (dVar 2) (Zej (dC (.int 2))) Zci) dNil))))) Zaf) (dSeq (dIfS (dAnd (Zae (dOp uEq (dOp uIx (dVar 2) (dC (.int 0))) (dC (.str [119, 114, 105, 116, 101])))) (dAnd (Zae (dOp uEq (dCB uLen (Zaa (dVar 2) dNil)) (dC (.int 4)))) (Zae (dOp uEq (dOp uIx (dVar 2) (dC (.int 2))) (dC (.str [102, 111, 114])))))) (dRet (Zng .Write Zc3 [] E (Zaa (dVar 0) (Zaa (dOp uIx (dVar 2) (dC (.int 1))) (Zaa (dOp uIx (dVar 2) (dC (.int 3))) dNil))))) Zaf) (dSeq (dIfS (dAnd (Zae (dOp uEq (dOp uIx (dVar 2) (dC (.int 0))) (dC (.str [111, 110, 99, 101])))) (Zae (dOp uEq (dCB uLen (Zaa (dVar 2) dNil)) (dC (.int 2))))) (dRet (Zng .Once Zeb [] E (Zaa (dVar 0) (Zaa (dOp uIx (dVar 2) (dC (.int 1))) dNil)))) Zaf) (dSeq (dIfS (dAnd (Zae (dOp uEq (dOp uIx (dVar 2) (dC (.int 0))) (dC (.str [97, 100, 100])))) (Zae (dOp uEq (dCB uLen (Zaa (dVar 2) dNil)) (dC (.int 2))))) (dRet (Zng .Add Ze5 [] E (Zaa (dVar 0) (Zaa (dOp uIx (dVar 2) (dC (.int 1))) dNil)))) Zaf) (Zdc .BadStage E (Zaa (dC (.str [116, 101, 120, 116])) dNil))))))
def Zfr : DS :=
 dSeq (dAsg (Zau Zak noX (Zaa (dVar 0) (Zaa (dC (.int 8)) dNil))) (hName 2)) (dSeq (dAsg (dOp uAdd (dC (.str [45])) (dVar 1)) (hName 3)) (dSeq (dIfS (Zae (dOp uLt (dVar 2) (dC (.int 5)))) (dSeq (dAsg (Zau Zfh noX (Zaa (dVar 0) (Zaa (dVar 1) dNil))) (hName 4)) (dSeq (dAsg (Zau Zak noX (Zaa (dVar 0) (Zaa (dC (.int 4)) dNil))) (hName 5)) (dRet (dTup (Zaa (dC (.str [100, 114, 111, 112])) (Zaa (dVar 4) (Zaa (dVar 5) (Zaa (dOp uEq (Zau Zak noX (Zaa (dVar 0) (Zaa (dC (.int 2)) dNil))) (dC (.int 1))) (Zaa (dOp uGt (dVar 2) (dC (.int 2))) dNil))))))))) Zaf) (dSeq (dIfS (Zae (dOp uEq (dVar 2) (dC (.int 6)))) (dRet (dTup (Zaa (dC (.str [111, 110, 99, 101])) (Zaa (Zau Zfh noX (Zaa (dVar 0) (Zaa (dVar 1) dNil))) dNil)))) Zaf) (dSeq (dAsg (dOp uIx (dVar 3) (Zau Zak noX (Zaa (dVar 0) (Zaa (dCB uLen (Zaa (dVar 3) dNil)) dNil)))) (hName 6)) (dRet (dIf (Zae (dOp uEq (dVar 2) (dC (.int 7)))) (dTup (Zaa (dC (.str [97, 100, 100])) (Zaa (dVar 6) dNil))) (dTup (Zaa (dC (.str [119, 114, 105, 116, 101])) (Zaa (dVar 6) (Zaa (Zau Zfh noX (Zaa (dVar 0) (Zaa (dVar 1) dNil))) dNil))))))))))
theorem Zxk {M : Mem} {X : DX} {e : DErr} {o o' : Option Cell} (h : X e M) : Zbf M X e ((M ++ [o]).set M.length o') := by
 refine ⟨?_, ?_⟩
 ·rw [Zbe]
  exact Exit.app M _
 ·rw [Zbe, Hv rfl]
  exact h
theorem Yf8 {M : Mem} {Q : DQ} {z : List Nat} {zs : List (List Nat)} {xs : List PV} (e : xs = zs.map PV.str) (h : Q (vB (decide (z ∈ zs))) M) : uIn (vS z) (vL xs) M Q := by
 subst e
 refine Or.inr ⟨.str z, _, _, rfl, rfl, Zby _, rfl, ?_, ?_⟩
 ·rw [List.all_map]
  exact Q8.mpr fun _ _ => rfl
 ·rw [G5]
  have : ((zs.map PV.str).any fun y => y.eqF (.str z)) = decide (z ∈ zs) := by
   rw [To, Q7, Lb, decide_eq_true_iff]
   exact ⟨fun ⟨y, hy, e⟩ => by
    have e' : y = z := of_decide_eq_true e
    exact e' ▸ hy, fun h => ⟨z, h, decide_eq_true rfl⟩⟩
  rw [this]
  exact h
theorem Zve (ds : List D) (M : Mem) (Q : DQ) (E : DX) (h : Zf0 ds M Q E) : Zfr { nx := fun _ M' => Zab M Q (.v .non) M', rt := Zab M Q } (Zac 7 ds) M := by
 obtain ⟨b, ls, vw, rfl, hb, asc, ol, q⟩ := h
 show Zfr _ [some (.cell b), some (vS ls), none, none, none, none, none] M
 unfold Zfr
 have h8 := ol.2.2.1
 walk_at "ds"
 refine Zee hb (by decide) (by decide) fun w M1 hw d1 hb1 => ?_
 walk_at "ds"
 refine ite2 (fun h => ?_) (fun h5 => ?_)
 ·walk_at "ds"
  refine Z24 hb1 asc ol fun nm M2 on hn d2 hb2 => ?_
  walk_at "ds"
  refine Zee hb2 (by decide) (by decide) fun a M3 ha d3 hb3 => ?_
  walk_at "ds"
  refine Zee hb3 (by decide) (by decide) fun e M4 he d4 hb4 => ?_
  walk_at "ds"
  have dd := ((d1.trans d2).trans d3).trans d4
  exact x_bd dd (q (.drop nm (mem ls vw nm) a (decide ((e : Int) = 1)) (decide ((2 : Int) < w))) _ ⟨on, rfl, hn, by omega⟩ dd)
 walk_at "ds"
 refine ite2 (fun h => ?_) (fun h6 => ?_)
 ·walk_at "ds"
  refine Z24 hb1 asc ol fun nm M2 on hn d2 hb2 => ?_
  walk_at "ds"
  have dd := d1.trans d2
  exact x_bd dd (q (.once nm (mem ls vw nm)) _ ⟨on, rfl, hn⟩ dd)
 walk_at "ds"
 refine Zee hb1 (by simp <;> omega) (by simp <;> omega) fun r M2 hr d2 hb2 => ?_
 rw [show [45] ++ ls = 45 :: ls from rfl] at hr ⊢
 have hr' : r < (45 :: ls).length := by omega
 refine Zrb (c := (45 :: ls)[r]) (by walk_at "sz") (atI_nat (Qf hr')) ?_
 have hx : (45 :: ls)[r] ∈ 45 :: ls := Ho hr'
 revert hx
 generalize (45 :: ls)[r] = x
 intro hx
 walk_at "ds"
 refine ite2 (fun h => ?_) (fun h7 => ?_)
 ·walk_at "ds"
  have dd := d1.trans d2
  exact x_bd dd (q (.add x) _ hx dd)
 ·walk_at "ds"
  refine Z24 hb2 asc ol fun nm M3 on hn d3 hb3 => ?_
  walk_at "ds"
  have dd := (d1.trans d2).trans d3
  exact x_bd dd (q (.write x nm (mem ls vw nm)) _ ⟨hx, on, rfl, hn⟩ dd)
theorem Yai {M : Mem} {Q : DQ} {X : DX} {b : Nat} {ls : List Nat} (vw : List Nat) (hb : Bg M b) (asc : ls.Pairwise (· < ·)) (ol : okL ls) (h : ∀ st M', Stg.ok ls vw st → Bd b M M' → Bg M' b → Q (.v st.tup) M') : Zf0 [.cell b, vS ls] M Q X := ⟨b, ls, vw, rfl, hb, asc, ol, fun st M' o d => h st M' o d (d.bg hb)⟩
theorem Z7p {M : Mem} {Q : DQ} {X : DX} {ls vw nm : List Nat} {a : Int} {b : Nat} {e : Bool} (ea : a = b) (hb : b ≤ 3) (hn : okN ls nm) (hl : nm.length ≤ 60) (h : Q (.v (Stg.pv (alph ls vw) (.drop nm (mem ls vw nm) b e false))) M) : Zbs [.cell M.length, .v (alph ls vw), vS nm, vI a, vB e] (M ++ [some (.obj .Drop [])]) (mkQ .Drop M Q) X :=
 ⟨M.length, .Drop, ls, vw, nm, a, e, rfl, Qi .., Or.inl rfl, hl, fun n => absurd hn n, fun _ n => absurd ⟨by omega, by omega⟩ n, fun b' e' _ _ l => by
  obtain rfl : b' = b := by omega
  exact Zfy h⟩
theorem Z26 {M : Mem} {Q : DQ} {X : DX} {ls vw nm : List Nat} {a : Int} {b : Nat} {e : Bool} (ea : a = b) (hb : b ≤ 3) (hn : okN ls nm) (hl : nm.length ≤ 60) (h : Q (.v (Stg.pv (alph ls vw) (.drop nm (mem ls vw nm) b e true))) M) : Za6 [.cell M.length, .v (alph ls vw), vS nm, vI a, vB e] (M ++ [some (.obj .LastDrop [])]) (mkQ .LastDrop M Q) X :=
 ⟨⟨_, _, rfl, Qi ..⟩, M.length, .LastDrop, ls, vw, nm, a, e, rfl, Qi .., Or.inr rfl, hl, fun n => absurd hn n, fun _ n => absurd ⟨by omega, by omega⟩ n, fun b' e' _ _ l => by
  obtain rfl : b' = b := by omega
  exact Zfy h⟩
local macro_rules | `(tactic| walk_at "fz") => `(tactic| repeat with_reducible refine Wg.go ?_)
local macro_rules | `(tactic| walk_at "dw") => `(tactic| skip)
local macro_rules | `(tactic| walk_at "dx") => `(tactic| skip)
local macro_rules | `(tactic| walk_at "ds") => `(tactic| (walk_at "fz"; walk_at "dw"))
local macro_rules | `(tactic| walk_at "dz") => `(tactic| (walk_at "ds"; walk_at "dx"))
local macro_rules | `(tactic| walk_at "dx") => `(tactic| (((first | with_reducible refine z_eq ?_ | with_reducible refine Z7u ?_ | with_reducible refine z_F (c := isNon (.v _)) (by with_unfolding_all exact rfl) ?_ | with_reducible refine z_nF (c := isNon (.v _)) (by with_unfolding_all exact rfl) ?_ | with_reducible refine z_T (c := isNon (.v _)) (by with_unfolding_all exact rfl) ?_ | with_reducible refine z_nT (c := isNon (.v _)) (by with_unfolding_all exact rfl) ?_ | with_reducible refine z_F (by decide) ?_ | with_reducible refine z_T (by decide) ?_ | with_reducible refine z_nF (by decide) ?_ | with_reducible refine z_nT (by decide) ?_ | fail); walk_at "ds"); walk_at "dx"))
local macro_rules | `(tactic| walk_at "dw") => `(tactic| (((first | with_reducible refine Ztt (by first | (dsimp only [Hg, Hr, Hh, Hi]; done) | (with_unfolding_all exact rfl)) ?_ | with_reducible refine Z16 (by with_unfolding_all exact rfl) ?_ | with_reducible refine k_pu (by with_unfolding_all exact rfl) (by (rw [sizeLine_eq]; (try simp only [Qc, Qe, Qh, Qb, Qt]); omega)) ?_ | with_reducible refine iteT ?_ | with_reducible refine k_eq (by with_unfolding_all exact rfl) ?_ | with_reducible refine iteF ?_ | with_reducible refine k_sz (by (rw [sizeLine_eq]; (try simp only [Qc, Qe, Qh, Qb, Qt]); omega)) ?_ | with_reducible refine k_ne (by with_unfolding_all exact rfl) ?_ | with_reducible refine Zxp (by (rw [sizeLine_eq]; (try simp only [Qc, Qe, Qh, Qb, Qt]); omega)) ?_ | with_reducible refine Ze1 (by (rw [sizeLine_eq]; (try simp only [Qc, Qe, Qh, Qb, Qt]); omega)) ?_ | with_reducible refine Zxr _ ?_ | with_reducible refine Zka (by rfl) ?_ | with_reducible refine Zei (by with_unfolding_all exact rfl) ?_ | with_reducible refine Z4y (by (rw [sizeLine_eq]; (try simp only [Qc, Qe, Qh, Qb, Qt]); omega)) ?_ | fail); walk_at "fz"); walk_at "dw"))
local macro_rules | `(tactic| walk_at "dx") => `(tactic| (((first | with_reducible refine Z15 ?_ | with_reducible refine Z14 ?_ | with_reducible refine Z13 ?_ | with_reducible refine Z12 ?_ | with_reducible refine Z7w (by first | omega | (simp; done) | (simp; omega)) ?_ | with_reducible refine Z7v (by first | omega | (simp; done) | (simp; omega)) ?_ | with_reducible refine Zzc (by first | omega | (simp; done) | (simp; omega)) ?_ | with_reducible refine Zzb (by first | omega | (simp; done) | (simp; omega)) ?_ | with_reducible refine Z7y (by first | omega | (simp; done) | (simp; omega)) ?_ | with_reducible refine Z7x (by first | omega | (simp; done) | (simp; omega)) ?_ | fail); walk_at "ds"); walk_at "dx"))
theorem Zra {M : Mem} {Q : DQ} {k : Cn} {n m : Nat} {g : DSp} {Ed : DX} {a ak : DA} {ds : DSt} (h : a ds M fun xs M0 => ak ds M0 fun zs M1 => xs.length = n ∧ zs.length = m ∧ g (.cell M1.length :: (xs ++ zs)) (M1 ++ [some (.obj k [])]) (mkQ k M1 Q) (Zbf M1 Ed)) : Zud k n m g Ed a ak ds M Q := h
theorem Zmd (ds : List D) (M : Mem) (Q : DQ) (E : DX) (h : Zaq ds M Q E) : Zcg { nx := fun _ M' => Zab M Q (.v .non) M', rt := Zab M Q } (Zac 2 ds) M := by
 obtain ⟨ls, vw, ls', vw', rfl, q⟩ := h
 show Zcg _ [some (.v (alph ls vw)), some (.v (alph ls' vw'))] M
 unfold Zcg
 walk_at "dz"
 refine ⟨_, .c .Alphabet, true, rfl, rfl, rfl, ?_⟩
 walk_at "dz"
 refine Zal Zaz rfl ?_
 walk_at "dz"
 refine Zal Zaz rfl ?_
 walk_at "dz"
 by_cases h1 : ls = ls'
 ·rw [decide_eq_true h1] at q ⊢
  walk_at "dz"
  refine Zal Zaz rfl ?_
  walk_at "dz"
  refine Zal Zaz rfl ?_
  walk_at "dz"
  exact Zad (by simpa using q)
 ·rw [decide_eq_false h1] at q ⊢
  walk_at "dz"
  exact Zad (by simpa using q)
def Ycg : Option (List Nat) → PV
 | none => .non
 | some n => .str n
theorem Zlk {xs ys : List (List Nat)} (h : asc3 xs) (hs : ∀ y ∈ ys, y ∈ xs) : asc3 ys := fun z hz => h z (hs z hz)
theorem Zll {ys : List (List Nat)} (h : ys.all (fun z => z.all (· < 1114112)) = true) : asc3 ys := fun z hz c hc => of_decide_eq_true (Q8.mp (Q8.mp h z hz) c hc)
theorem Yd0 (p : List (List Nat)) : decide (p.take 1 = [Zes]) = (Zch p).1 := by
 cases p with
 | nil => rfl
 | cons w r =>
  show decide ([w] = [Zes]) = (if w = Zes then (true, r) else (false, w :: r)).1
  by_cases h : w = Zes
  ·rw [if_pos h, h]; rfl
  ·rw [if_neg h]
   exact decide_eq_false fun e => h (by simpa using e)
theorem Z3g (ps : List (List Nat)) : ∀ y ∈ (Za7 ps).2, y ∈ ps := by
 unfold Za7
 split
 ·split
  ·exact fun y hy => Qk _ (Qk _ hy)
  ·exact fun y hy => hy
 ·exact fun y hy => hy
theorem Z5i (ps : List (List Nat)) : ∀ y ∈ (Zch ps).2, y ∈ ps := by
 unfold Zch
 split
 ·split
  ·exact fun y hy => Qk _ hy
  ·exact fun y hy => hy
 ·exact fun y hy => hy
theorem Zqd (ds : List D) (M : Mem) (Q : DQ) (E : DX) (h : Zfg ds M Q E) : Zds (Zbf M E) { nx := fun _ M' => Zab M Q (.v .non) M', rt := Zab M Q } (Zac 6 ds) M := by
 obtain ⟨ls, vw, nm, ps, rfl, hn, ha, q⟩ := h
 show Zds (Zbf M E) _ [some (.v (alph ls vw)), some (vS nm), some (vL (ps.map PV.str)), none, none, none] M
 unfold Zds
 have raise : ∀ w, Zj6 ls vw nm ps = .inl w → ∃ qs, Za2 [vS w] = some qs ∧ qs.length = Cn.BadStage.flds.length ∧ Zbf M E ⟨.BadStage, qs⟩ M := fun w e => by
  rw [e] at q
  exact ⟨[.str w], rfl, rfl, Zc6 q⟩
 walk_at "dz"
 refine Zvt (fun ds' M' => M' = M ∧ ds' = [some (.v (alph ls vw)), some (vS nm), some (vL ((Za7 ps).2.map PV.str)), some (.v (Ycg (Za7 ps).1)), none, none]) ?_ ?_
 ·walk_at "dz"
  rw [Zjv, show (some 1 : Option Int) = some ((1 : Nat) : Int) from rfl, Z5r]
  refine Z17 (as := ps.take 1) (bs := [txAf]) rfl rfl (Zlk ha fun y hy => Gn hy) (Zll (by decide)) ?_
  clear q raise
  rcases ps with _ | ⟨w, _ | ⟨n, r⟩⟩
  ·walk_at "dz"
   exact ⟨rfl, rfl⟩
  ·walk_at "dz"
   refine ite2 (fun h => ?_) (fun h => ?_)
   ·walk_at "dz"
    exact ⟨rfl, rfl⟩
   ·walk_at "dz"
    exact ⟨rfl, rfl⟩
  ·walk_at "dz"
   refine ite2 (fun h => ?_) (fun h => ?_)
   ·have hw : w = txAf := by simpa using of_decide_eq_true h
    walk_at "dz"
    rw [Zjv, show (some 2 : Option Int) = some ((2 : Nat) : Int) from rfl, Yah]
    refine ⟨rfl, ?_⟩
    simp only [Za7, if_pos hw]
    rfl
   ·have hw : ¬ w = txAf := fun e => h (by rw [e]; rfl)
    walk_at "dz"
    refine ⟨rfl, ?_⟩
    simp only [Za7, if_neg hw]
    rfl
 rintro _ M1 ⟨rfl, rfl⟩
 have ha2 : asc3 (Za7 ps).2 := Zlk ha (Z3g ps)
 revert raise q
 rw [show Zj6 ls vw nm ps = (if (Zch (Za7 ps).2).2 = [] ∨ (Zch (Za7 ps).2).2 = [Zfm, Zct] then
  if okN ls nm then Ztd ls vw nm (Zch (Za7 ps).2).1 (decide ((Zch (Za7 ps).2).2 ≠ [])) (Za7 ps).1 else .inl txS
  else .inl Zhh) from rfl]
 revert ha2
 generalize (Za7 ps).2 = p2
 generalize (Za7 ps).1 = num
 intro ha2 q raise
 walk_at "dz"
 rw [Zjv, show (some 1 : Option Int) = some ((1 : Nat) : Int) from rfl, Z5r]
 refine Z17 (as := p2.take 1) (bs := [Zes]) rfl rfl (Zlk ha2 fun y hy => Gn hy) (Zll (by decide)) ?_
 rw [Yd0]
 walk_at "dz"
 refine Zvt (fun ds' M'' => M'' = M1 ∧ ds' = [some (.v (alph ls vw)), some (vS nm), some (vL ((Zch p2).2.map PV.str)), some (.v (Ycg num)), some (vB (Zch p2).1), none]) ?_ ?_
 ·clear q raise
  walk_at "dz"
  rcases p2 with _ | ⟨w, r⟩
  ·walk_at "dz"
   exact ⟨rfl, rfl⟩
  ·by_cases hw : w = Zes
   ·have e : Zch (w :: r) = (true, r) := by show (if w = Zes then (true, r) else (false, w :: r)) = _; rw [if_pos hw]
    rw [e]
    walk_at "dz"
    rw [Zjv, show (some 1 : Option Int) = some ((1 : Nat) : Int) from rfl, Yah]
    exact ⟨rfl, rfl⟩
   ·have e : Zch (w :: r) = (false, w :: r) := by show (if w = Zes then (true, r) else (false, w :: r)) = _; rw [if_neg hw]
    rw [e]
    walk_at "dz"
    exact ⟨rfl, rfl⟩
 rintro _ M2 ⟨rfl, rfl⟩
 have ha3 : asc3 (Zch p2).2 := Zlk ha2 (Z5i p2)
 revert q raise ha3
 generalize (Zch p2).2 = r
 generalize (Zch p2).1 = e
 intro q raise ha3
 walk_at "dz"
 have hany : ([PV.lst [], .lst [.str Zfm, .str Zct]].any fun z => eqvP z (.lst (r.map PV.str))) = decide (r = [] ∨ r = [Zfm, Zct]) := by
  rw [Q7]
  have e1 : eqvP (.lst []) (.lst (r.map PV.str)) = decide ([] = r) := Zli (xs := []) (Zll (by decide))
  have e2 : eqvP (.lst [.str Zfm, .str Zct]) (.lst (r.map PV.str)) = decide ([Zfm, Zct] = r) := Zli (xs := [Zfm, Zct]) (Zll (by decide))
  simp only [Lu, List.any_nil, Bool.or_false, e1, e2, Bool.or_eq_true, decide_eq_true_iff]
  constructor
  ·rintro (h | h)
   ·exact Or.inl h.symm
   ·exact Or.inr h.symm
  ·rintro (h | h)
   ·exact Or.inl h.symm
   ·exact Or.inr h.symm
 have hlay : (PV.lst (r.map PV.str)).lay 59 = true := by
  show PV.layL 58 _ = true
  rw [PV.Zh9]
  intro x hx
  obtain ⟨z, hz, rfl⟩ := Qz.mp hx
  show z.all (· < 1114112) = true
  rw [Q8]
  exact fun c hc => decide_eq_true (ha3 z hz c hc)
 refine ⟨.lst (r.map PV.str), _, rfl, Or.inr rfl, hlay, by decide, ?_⟩
 rw [hany, G9]
 walk_at "dz"
 by_cases hr : r = [] ∨ r = [Zfm, Zct]
 case neg =>
  rw [decide_eq_false hr]
  rw [if_neg hr] at raise
  walk_at "dz"
  exact raise _ rfl
 rw [decide_eq_true hr]
 rw [if_pos hr] at raise q
 walk_at "dz"
 refine k_m Zaz rfl ?_
 walk_at "dz"
 refine ⟨ls, vw, nm, rfl, hn, fun on => ?_, fun no => ?_⟩
 case refine_2 =>
  rw [if_neg no] at q
  exact Zc6 q
 rw [if_pos on] at raise q
 cases num with
 | none =>
  walk_at "dz"
  cases r with
  | nil =>
   walk_at "dz"
   refine Zra ?_
   walk_at "dz"
   exact ⟨rfl, rfl, Z7p (b := 0) rfl (by decide) on hn (Zad q)⟩
  | cons w r =>
   refine iteT ?_
   walk_at "dz"
   refine Zra ?_
   walk_at "dz"
   exact ⟨rfl, rfl, Z26 (b := 0) rfl (by decide) on hn (Zad q)⟩
 | some n =>
  walk_at "dz"
  refine ⟨n, rfl, ?_⟩
  rw [Z1q]
  cases hnum : numT n with
  | none =>
   walk_at "dz"
   have e1 : Ztd ls vw nm e (decide (r ≠ [])) (some n) = .inl txAf := by simp only [Ztd, hnum]
   exact raise _ e1
  | some k =>
   have e1 : Ztd ls vw nm e (decide (r ≠ [])) (some n) = .inr (.drop nm (mem ls vw nm) k e (decide (r ≠ []))) := by simp only [Ztd, hnum]
   rw [e1] at q
   walk_at "dz"
   refine iteF ?_
   walk_at "dz"
   refine ⟨n, (k : Int), rfl, by rw [Z1q, hnum]; rfl, ?_⟩
   walk_at "dz"
   cases r with
   | nil =>
    walk_at "dz"
    refine Zra ?_
    walk_at "dz"
    exact ⟨rfl, rfl, Z7p (b := k) rfl (Z1e hnum).1 on hn (Zad q)⟩
   | cons w r =>
    refine iteT ?_
    walk_at "dz"
    refine Zra ?_
    walk_at "dz"
    exact ⟨rfl, rfl, Z26 (b := k) rfl (Z1e hnum).1 on hn (Zad q)⟩
theorem Znv (ds : List D) (M : Mem) (Q : DQ) (E : DX) (h : Zc2 ds M Q E) : Zcv (Zbf M E) { nx := fun _ M' => Zab M Q (.v .non) M', rt := Zab M Q } (Zac 3 ds) M := by
 obtain ⟨ls, vw, z, rfl, hz, hp, ha, q⟩ := h
 show Zcv (Zbf M E) _ [some (.v (alph ls vw)), some (vS z), none] M
 unfold Zcv
 walk_at "dz"
 refine Z9h (by simp) (by decide) (by walk_at "sz") ?_
 have has := Yao (b := [32]) ha
 have hne := Zz4 [32] z 0 []
 revert hp q has hne
 rw [show wds z = TL.spl [32] 0 [] z from rfl]
 generalize TL.spl [32] 0 [] z = ws
 intro hp q has hne
 have raise : ∀ w, rdW ls vw ws = .inl w → ∃ qs, Za2 [vS w] = some qs ∧ qs.length = Cn.BadStage.flds.length ∧ Zbf M E ⟨.BadStage, qs⟩ M := fun w e => by
  rw [e] at q
  exact ⟨[.str w], rfl, rfl, Zc6 q⟩
 rcases ws with _ | ⟨w, ws⟩
 ·exact absurd rfl hne
 walk_at "dz"
 have no1 : ∀ x : List Nat, w ≠ x → decide (w = x) = false := fun x h => decide_eq_false h
 rcases ws with _ | ⟨nm, ps⟩
 ·by_cases h1 : w = Zsc
  ·subst h1
   walk_at "dz"
   exact raise _ rfl
  refine z_F (no1 _ h1) ?_
  walk_at "dz"
  by_cases h2 : w = Zlo
  ·subst h2
   walk_at "dz"
   exact raise _ rfl
  refine z_F (no1 _ h2) ?_
  walk_at "dz"
  by_cases h3 : w = Zsb
  ·subst h3
   walk_at "dz"
   exact raise _ rfl
  refine z_F (no1 _ h3) ?_
  walk_at "dz"
  by_cases h4 : w = Zzm
  ·subst h4
   walk_at "dz"
   exact raise _ rfl
  refine z_F (no1 _ h4) ?_
  walk_at "dz"
  exact raise _ rfl
 have hnm : nm.length ≤ 60 := hp nm (by simp)
 by_cases h1 : w = Zsc
 ·subst h1
  walk_at "dz"
  rw [Zjv, show (some 2 : Option Int) = some ((2 : Nat) : Int) from rfl, Yah]
  refine ⟨ls, vw, nm, ps, rfl, hnm, fun z hz => has z (by simp [hz]), ?_⟩
  have e : rdW ls vw (Zsc :: nm :: ps) = Zj6 ls vw nm ps := rfl
  rw [e] at q
  cases hd : Zj6 ls vw nm ps with
  | inl w => rw [hd] at q; exact Zc6 q
  | inr st => rw [hd] at q; exact Zad q
 refine z_F (no1 _ h1) ?_
 walk_at "dz"
 by_cases h2 : w = Zlo
 ·subst h2
  walk_at "dz"
  have er : rdW ls vw (Zlo :: nm :: ps) = rdWr ls vw nm ps := rfl
  rw [er] at q raise
  rcases ps with _ | ⟨f, _ | ⟨n, _ | ⟨m, ps⟩⟩⟩
  ·walk_at "dz"
   exact raise _ rfl
  ·walk_at "dz"
   exact raise _ rfl
  ·walk_at "dz"
   by_cases hf : f = Zzl
   ·subst hf
    walk_at "dz"
    have hn : n.length ≤ 60 := hp n (by simp)
    rw [show rdWr ls vw nm [Zzl, n] = Zme ls vw nm n from rfl] at q
    unfold Zme at q
    refine ⟨M.length, ls, vw, nm, n, rfl, Qi .., hnm, hn, fun no o => ?_, fun ox no o => ?_, fun c ec ox on => ?_⟩
    ·rw [if_neg no] at q
     exact Zxk (Zc6 q)
    ·rw [if_pos ox, if_neg no] at q
     exact Zxk (Zc6 q)
    ·rw [if_pos ox, if_pos on] at q
     subst ec
     exact Zfy (Zad q)
   ·rw [decide_eq_false hf]
    walk_at "dz"
    have : rdWr ls vw nm [f, n] = .inl Zhh := by show (if f = Zzl then _ else _) = _; rw [if_neg hf]
    exact raise _ this
  ·walk_at "dz"
   exact raise _ rfl
 refine z_F (no1 _ h2) ?_
 walk_at "dz"
 by_cases h3 : w = Zsb
 ·subst h3
  walk_at "dz"
  have er : rdW ls vw (Zsb :: nm :: ps) = rdOn ls vw nm ps := rfl
  rw [er] at q raise
  rcases ps with _ | ⟨f, ps⟩
  ·walk_at "dz"
   have q' : Z4k (alph ls vw) M Q E (Ztc ls vw nm) := q
   unfold Ztc at q'
   refine ⟨M.length, ls, vw, nm, rfl, Qi .., hnm, fun no o => ?_, fun on => ?_⟩
   ·rw [if_neg no] at q'
    exact Zxk (Zc6 q')
   ·rw [if_pos on] at q'
    exact Zfy (Zad q')
  ·walk_at "dz"
   exact raise _ rfl
 refine z_F (no1 _ h3) ?_
 walk_at "dz"
 by_cases h4 : w = Zzm
 ·subst h4
  walk_at "dz"
  have er : rdW ls vw (Zzm :: nm :: ps) = rdAd ls nm ps := rfl
  rw [er] at q raise
  rcases ps with _ | ⟨f, ps⟩
  ·walk_at "dz"
   have q' : Z4k (alph ls vw) M Q E (Z05 ls nm) := q
   unfold Z05 at q'
   refine ⟨M.length, ls, vw, nm, rfl, Qi .., hnm, fun no o => ?_, fun c ec on => ?_⟩
   ·rw [if_neg no] at q'
    exact Zxk (Zc6 q')
   ·rw [if_pos on] at q'
    subst ec
    exact Zfy (Zad q')
  ·walk_at "dz"
   exact raise _ rfl
 refine z_F (no1 _ h4) ?_
 walk_at "dz"
 exact raise _ (by simp only [rdW, if_neg h1, if_neg h2, if_neg h3, if_neg h4])
local macro_rules | `(tactic| walk_at "fz") => `(tactic| repeat with_reducible refine Wg.go ?_)
theorem Z2b (a b : Nat) (m : List Nat) : inner (a :: (m ++ [b])) = m := by
 unfold inner cut
 have hl : (a :: (m ++ [b])).length = m.length + 2 := by simp
 have e1 : HT.sIx (a :: (m ++ [b])).length 0 (some 1) = 1 := by
  show HT.sIx _ _ (some ((1 : Nat) : Int)) = 1
  rw [HT.sIx_nat, hl]
  omega
 have e2 : HT.sIx (a :: (m ++ [b])).length (a :: (m ++ [b])).length (some (-1)) = m.length + 1 := by
  rw [Z6q, hl]
  omega
 rw [e1, e2]
 show (m ++ [b]).take (m.length + 1 - 1) = m
 rw [G0, Hv]
 rfl
theorem Z4l {ls z : List Nat} (h : okS ls z) : z = 91 :: (inner z ++ [93]) := by
 obtain ⟨h3, h0, h1, _, _⟩ := h
 rcases z with _ | ⟨a, y⟩
 ·simp at h3
 rcases List.eq_nil_or_concat y with rfl | ⟨m, b, rfl⟩
 ·simp at h3
 rw [List.concat_eq_append] at *
 rw [Z2b]
 have ea : a = 91 := by
  have : atI (a :: (m ++ [b])) ((0 : Nat) : Int) = some a := atI_nat rfl
  have h0' : atI (a :: (m ++ [b])) ((0 : Nat) : Int) = some 91 := h0
  rw [this] at h0'
  exact Q0 h0'
 have eb : b = 93 := by
  have : atI (a :: (m ++ [b])) (-1) = some b := by
   unfold atI
   have hl : (a :: (m ++ [b])).length = m.length + 2 := by simp
   have e : ixN (m.length + 2) (-1) = some (m.length + 1) := by
    unfold ixN
    rw [if_neg (by decide), if_pos (by omega)]
    congr 1
    omega
   rw [hl, e]
   show (a :: (m ++ [b]))[m.length + 1]? = some b
   simp
  rw [this] at h1
  exact Q0 h1
 rw [ea, eb]
theorem Z4m {ls z : List Nat} (h : okN ls z) (sm : ∀ c ∈ ls, c ∈ small) : ∀ c ∈ z, c ∈ 91 :: 93 :: 45 :: small := by
 rcases h with rfl | rfl | rfl | rfl | rfl | h
 ·decide
 ·decide
 ·decide
 ·decide
 ·decide
 ·rw [Z4l h]
  intro c hc
  rcases Qg.mp hc with rfl | hc
  ·exact Qo
  ·rcases Q1.mp hc with hc | hc
   ·have := Zjo.mp h.2.2.2.1 c hc
    rcases Qg.mp this with rfl | hc
    ·decide
    ·exact Qk _ (Qk _ (Qk _ (sm c hc)))
   ·rw [Qj.mp hc]
    decide
def Stg.words : Stg → List (List Nat)
 | .drop nm _ a e l => [Zsc, nm] ++ (if 0 < a then [txAf, dig a] else []) ++ (if e = true then [Zes] else []) ++ (if l = true then [Zfm, Zct] else [])
 | .write x nm _ => [Zlo, [x], Zzl, nm]
 | .once nm _ => [Zsb, nm]
 | .add x => [Zzm, [x]]
theorem Zoq (st : Stg) : glue [32] st.words = st.text := by
 cases st with
 | drop nm ch a e l =>
  simp only [Stg.words, Stg.text]
  by_cases ha : 0 < a
  ·rw [if_pos ha, if_pos ha]
   cases e <;> cases l <;> simp [glue]
  ·rw [if_neg ha, if_neg ha]
   cases e <;> cases l <;> simp [glue]
 | write x nm ch => simp [Stg.words, Stg.text, glue]
 | once nm ch => simp [Stg.words, Stg.text, glue]
 | add x => simp [Stg.words, Stg.text, glue]
abbrev Zj3 : List Nat := 91 :: 93 :: 45 :: 48 :: 49 :: 50 :: 51 :: small
theorem Zd7 {ls z : List Nat} (h : okN ls z) (sm : ∀ c ∈ ls, c ∈ small) : ∀ c ∈ z, c ∈ Zj3 := fun c hc => by
 have := Z4m h sm c hc
 simp only [Qg] at this ⊢
 rcases this with h | h | h | h
 ·exact Or.inl h
 ·exact Or.inr (Or.inl h)
 ·exact Or.inr (Or.inr (Or.inl h))
 ·exact Or.inr (Or.inr (Or.inr (Or.inr (Or.inr (Or.inr (Or.inr h))))))
theorem Zio {ls vw : List Nat} {st : Stg} (o : st.ok ls vw) (sm : ∀ c ∈ ls, c ∈ small) : ∀ p ∈ st.words, (∀ c ∈ p, c ∈ Zj3) ∧ p.length ≤ 60 := by
 have sg : ∀ x, x ∈ 45 :: ls → (∀ c ∈ [x], c ∈ Zj3) := fun x hx c hc => by
  rw [Qj.mp hc]
  rcases Qg.mp hx with rfl | hx
  ·decide
  ·have := sm x hx
   simp only [Qg] at this ⊢
   exact Or.inr (Or.inr (Or.inr (Or.inr (Or.inr (Or.inr (Or.inr this))))))
 cases st with
 | drop nm ch a e l =>
  obtain ⟨on, rfl, hn, ha⟩ := o
  intro p hp
  have hd : ∀ k ≤ 3, (∀ c ∈ dig k, c ∈ Zj3) := fun k hk c hc => by
   have e : c = 48 + k := by simpa [dig] using hc
   rcases (show k = 0 ∨ k = 1 ∨ k = 2 ∨ k = 3 by omega) with rfl | rfl | rfl | rfl <;> (subst e; decide)
  simp only [Stg.words] at hp
  rcases Q1.mp hp with hp | hp
  ·rcases Q1.mp hp with hp | hp
   ·rcases Q1.mp hp with hp | hp
    ·simp only [Qg, Qm, or_false] at hp
     rcases hp with rfl | rfl
     ·exact ⟨by decide, by decide⟩
     ·exact ⟨Zd7 on sm, hn⟩
    ·split at hp
     ·simp only [Qg, Qm, or_false] at hp
      rcases hp with rfl | rfl
      ·exact ⟨by decide, by decide⟩
      ·exact ⟨hd a ha, by simp [dig]⟩
     ·cases hp
   ·split at hp
    ·rw [Qj.mp hp]
     exact ⟨by decide, by decide⟩
    ·cases hp
  ·split at hp
   ·simp only [Qg, Qm, or_false] at hp
    rcases hp with rfl | rfl
    ·exact ⟨by decide, by decide⟩
    ·exact ⟨by decide, by decide⟩
   ·cases hp
 | write x nm ch =>
  obtain ⟨hx, on, rfl, hn⟩ := o
  intro p hp
  simp only [Stg.words, Qg, Qm, or_false] at hp
  rcases hp with rfl | rfl | rfl | rfl
  ·exact ⟨by decide, by decide⟩
  ·exact ⟨sg x hx, by simp⟩
  ·exact ⟨by decide, by decide⟩
  ·exact ⟨Zd7 on sm, hn⟩
 | once nm ch =>
  obtain ⟨on, rfl, hn⟩ := o
  intro p hp
  simp only [Stg.words, Qg, Qm, or_false] at hp
  rcases hp with rfl | rfl
  ·exact ⟨by decide, by decide⟩
  ·exact ⟨Zd7 on sm, hn⟩
 | add x =>
  intro p hp
  simp only [Stg.words, Qg, Qm, or_false] at hp
  rcases hp with rfl | rfl
  ·exact ⟨by decide, by decide⟩
  ·exact ⟨sg x o, by simp⟩
theorem Z3w (st : Stg) : st.words ≠ [] := by cases st <;> simp [Stg.words]
theorem Zlb {ls vw : List Nat} {st : Stg} (o : st.ok ls vw) (sm : ∀ c ∈ ls, c ∈ small) : wds st.text = st.words := by
 rw [← Zoq]
 exact Zw2 (Z3w st) fun p hp h => by
  have := (Zio o sm p hp).1 32 h
  revert this
  decide
theorem Zre {s : List Nat} {c : Nat} : ∀ {ys : List (List Nat)}, c ∈ glue s ys → c ∈ s ∨ ∃ y ∈ ys, c ∈ y
 | [], h => by cases h
 | [x], h => Or.inr ⟨x, by simp, h⟩
 | x :: y :: r, h => by
  have h' : c ∈ x ++ (s ++ glue s (y :: r)) := h
  rcases Q1.mp h' with h | h
  ·exact Or.inr ⟨x, by simp, h⟩
  ·rcases Q1.mp h with h | h
   ·exact Or.inl h
   ·rcases Zre h with h | ⟨z, hz, h⟩
    ·exact Or.inl h
    ·exact Or.inr ⟨z, Qk _ hz, h⟩
theorem Zsf {ls vw : List Nat} {st : Stg} (o : st.ok ls vw) (sm : ∀ c ∈ ls, c ∈ small) : ∀ c ∈ st.text, c ∈ 32 :: Zj3 := fun c hc => by
 rw [← Zoq] at hc
 rcases Zre hc with h | ⟨y, hy, h⟩
 ·rw [Qj.mp h]; decide
 ·exact Qk _ ((Zio o sm y hy).1 c h)
theorem Zwy {ls vw : List Nat} {st : Stg} (o : st.ok ls vw) (sm : ∀ c ∈ ls, c ∈ small) : ∀ c ∈ st.text, c < 1114112 := fun c hc => by
 have h := Zsf o sm c hc
 have key : ∀ x ∈ 32 :: Zj3, x < 1114112 := by decide
 exact key c h
theorem text_len {ls vw : List Nat} {st : Stg} (o : st.ok ls vw) : st.text.length ≤ 150 := by
 cases st with
 | drop nm ch a e l =>
  obtain ⟨_, _, hn, _⟩ := o
  simp only [Stg.text, Qc]
  have h1 : (if 0 < a then [32, 97, 102, 116, 101, 114, 32] ++ dig a else []).length ≤ 8 := by split <;> simp [dig]
  have h2 : (if e = true then [32, 101, 97, 99, 104] else ([] : List Nat)).length ≤ 5 := by split <;> simp
  have h3 : (if l = true then [32, 98, 117, 116, 32, 108, 97, 115, 116] else ([] : List Nat)).length ≤ 9 := by split <;> simp
  simp only [Qe, Qh] at *
  omega
 | write x nm ch =>
  obtain ⟨_, _, _, hn⟩ := o
  simp [Stg.text]
  omega
 | once nm ch =>
  obtain ⟨_, _, hn⟩ := o
  simp [Stg.text]
  omega
 | add x => simp [Stg.text]
theorem Zqs {ls vw : List Nat} {st : Stg} (o : st.ok ls vw) : rdW ls vw st.words = .inr st := by
 cases st with
 | drop nm ch a e l =>
  obtain ⟨on, rfl, hn, ha⟩ := o
  have fin : ∀ r num, Za7 ((if 0 < a then [txAf, dig a] else []) ++ (if e = true then [Zes] else []) ++ (if l = true then [Zfm, Zct] else [])) = (num, r) → (Zch r) = (e, if l = true then [Zfm, Zct] else []) → Ztd ls vw nm e l num = .inr (.drop nm (mem ls vw nm) a e l) → rdW ls vw (Stg.drop nm (mem ls vw nm) a e l).words = .inr (.drop nm (mem ls vw nm) a e l) := by
   intro r num h1 h2 h3
   have e0 : rdW ls vw (Stg.drop nm (mem ls vw nm) a e l).words = Zj6 ls vw nm ((if 0 < a then [txAf, dig a] else []) ++ (if e = true then [Zes] else []) ++ (if l = true then [Zfm, Zct] else [])) := by
    simp only [Stg.words, Q6]
    rfl
   rw [e0]
   unfold Zj6
   rw [h1, h2]
   have hor : (if l = true then [Zfm, Zct] else []) = [] ∨ (if l = true then [Zfm, Zct] else []) = [Zfm, Zct] := by cases l <;> simp
   have hl : decide ((if l = true then [Zfm, Zct] else []) ≠ []) = l := by cases l <;> rfl
   simp only
   rw [if_pos hor, if_pos on, hl]
   exact h3
  by_cases h0 : 0 < a
  ·refine fin _ (some (dig a)) (by rw [if_pos h0]; rfl) ?_ ?_
   ·cases e <;> cases l <;> rfl
   ·have hn : numT (dig a) = some a := by
     rcases (show a = 1 ∨ a = 2 ∨ a = 3 by omega) with rfl | rfl | rfl <;> rfl
    unfold Ztd
    simp only [hn]
  ·have ea : a = 0 := by omega
   subst ea
   refine fin ((if e = true then [Zes] else []) ++ (if l = true then [Zfm, Zct] else [])) none ?_ ?_ rfl
   ·cases e <;> cases l <;> rfl
   ·cases e <;> cases l <;> rfl
 | write x nm ch =>
  obtain ⟨hx, on, rfl, hn⟩ := o
  show Zme ls vw [x] nm = _
  unfold Zme
  rw [if_pos (Z6w hx), if_pos on]
  rfl
 | once nm ch =>
  obtain ⟨on, rfl, hn⟩ := o
  show Ztc ls vw nm = _
  unfold Ztc
  rw [if_pos on]
 | add x =>
  show Z05 ls [x] = _
  unfold Z05
  rw [if_pos (Z6w o)]
  rfl
theorem Yee {M : Mem} {Q : DQ} {X : DX} {ls vw : List Nat} {st : Stg} (o : st.ok ls vw) (sm : ∀ c ∈ ls, c ∈ small) (h : Q (.v (st.pv (alph ls vw))) M) : Zc2 [.v (alph ls vw), vS st.text] M Q X := by
 refine ⟨ls, vw, st.text, rfl, Hb (text_len o) (by decide), ?_, Zwy o sm, ?_⟩
 ·rw [Zlb o sm]
  exact fun p hp => (Zio o sm p hp).2
 ·rw [Zlb o sm, Zqs o]
  exact h
abbrev Zcu (al : PV) (sts : List Stg) : PV := .obj .Rule [al, .tup (sts.map (Stg.pv al))]
def Zc5 (ls vw : List Nat) (sts : List Stg) : Prop := ∀ st ∈ sts, st.ok ls vw
abbrev Z75 : List Nat := [99, 111, 117, 110, 116]
abbrev Z54 : List Nat := [107, 101, 101, 112]
def Zns (ps : List ((List Nat × List Nat) × Stg)) : List PV := ps.map fun p => p.2.pv (alph p.1.1 p.1.2)
theorem Zw0 (ls vw : List Nat) (sts : List Stg) : Zns (sts.map fun st => ((ls, vw), st)) = sts.map (Stg.pv (alph ls vw)) := by
 unfold Zns
 rw [Qq]
 rfl
def vals : List Stg → List Sta → List PV
 | st :: sts, s :: ss => st.val s :: vals sts ss
 | _, _ => []
def push : List Stg → List Sta → List Nat → List Sta × List Nat
 | st :: sts, s :: ss, z => (st.aft s z :: (push sts ss (st.outs s z).flatten).1, (push sts ss (st.outs s z).flatten).2)
 | _, ss, z => (ss, z)
def goR : List Stg → List Sta → List Nat → List Nat
 | st :: sts, s :: ss, z => goR sts ss (st.go s z)
 | _, _, z => z
def new (sts : List Stg) : List Sta := sts.map fun _ => {}
def runR (sts : List Stg) (z : List Nat) : List Nat := goR sts (new sts) z
def Zgl : List Stg → List Nat → List (List Nat)
 | [], z => [z]
 | st :: sts, z => z :: Zgl sts (st.run z)
def Zbg (sts : List Stg) : List Nat := if sts = [] then Z54 else glue [59, 32] (sts.map Stg.text)
theorem Zl9 (st : Stg) (sts : List Stg) (z : List Nat) : runR (st :: sts) z = runR sts (st.run z) := rfl
theorem Zhr : ∀ (sts : List Stg) (z : List Nat), runR sts z = sts.foldl (fun z st => st.run z) z
 | [], _ => rfl
 | st :: sts, z => by rw [Zl9, Zhr sts]; rfl
theorem Z4e (a b : List Stg) (z : List Nat) : runR (a ++ b) z = runR b (runR a z) := by
 rw [Zhr, Zhr, Zhr, Lx]
theorem Z1b (st : Stg) : ∀ (z : List Nat) (s : Sta), (st.outs s z).flatten.length ≤ z.length + s.w.length := by
 cases st with
 | drop nm ch a e l =>
  have key : ∀ (z : List Nat) (s : Sta), ((Stg.drop nm ch a e l).outs s z).flatten.length + ((Stg.drop nm ch a e l).aft s z).w.length ≤ z.length + s.w.length := by
   intro z
   induction z with
   | nil => intro s; show 0 + s.w.length ≤ 0 + s.w.length; omega
   | cons c z ih =>
    intro s
    have h1 := ih ((Stg.drop nm ch a e l).step s c)
    have h2 : ((Stg.drop nm ch a e l).out s c).length + ((Stg.drop nm ch a e l).step s c).w.length ≤ 1 + s.w.length := by
     have hd := Zm9 ch a e s.n c
     cases l with
     | false =>
      simp only [Stg.out, Stg.step, G3, false_and, if_false, Qh]
      omega
     | true =>
      by_cases hj : e = true ∧ c = 45
      ·simp only [Stg.out, Stg.step, true_and, if_pos hj, if_true, Qc, Qh]
       omega
      ·simp only [Stg.out, Stg.step, true_and, if_neg hj, if_true]
       by_cases hz : Zeo ch a e s.n c = []
       ·rw [if_pos hz, hz]
        simp
       ·rw [if_neg hz]
        simp only [Qh]
        omega
    show ((Stg.drop nm ch a e l).out s c :: (Stg.drop nm ch a e l).outs ((Stg.drop nm ch a e l).step s c) z).flatten.length + ((Stg.drop nm ch a e l).aft ((Stg.drop nm ch a e l).step s c) z).w.length ≤ z.length + 1 + s.w.length
    rw [Hs, Qc]
    omega
  intro z s
  have := key z s
  omega
 | write x nm ch =>
  intro z
  induction z with
  | nil => intro s; exact Qr _
  | cons c z ih =>
   intro s
   have h1 := ih ((Stg.write x nm ch).step s c)
   have h2 : ((Stg.write x nm ch).out s c).length ≤ 1 := by simp only [Stg.out]; split <;> simp
   show ((Stg.write x nm ch).out s c :: (Stg.write x nm ch).outs ((Stg.write x nm ch).step s c) z).flatten.length ≤ z.length + 1 + s.w.length
   have h3 : ((Stg.write x nm ch).step s c).w.length = 0 := rfl
   rw [Hs, Qc]
   omega
 | once nm ch =>
  have key : ∀ (z : List Nat) (s : Sta), ((Stg.once nm ch).outs s z).flatten.length ≤ z.length := by
   intro z
   induction z with
   | nil => intro s; exact Qr _
   | cons c z ih =>
    intro s
    have h1 := ih ((Stg.once nm ch).step s c)
    have h2 : ((Stg.once nm ch).out s c).length ≤ 1 := by simp only [Stg.out]; split <;> simp
    show ((Stg.once nm ch).out s c :: (Stg.once nm ch).outs ((Stg.once nm ch).step s c) z).flatten.length ≤ z.length + 1
    rw [Hs, Qc]
    omega
  intro z s
  have := key z s
  omega
 | add x =>
  have key : ∀ (z : List Nat) (s : Sta), ((Stg.add x).outs s z).flatten.length ≤ z.length := by
   intro z
   induction z with
   | nil => intro s; exact Qr _
   | cons c z ih =>
    intro s
    have h1 := ih ((Stg.add x).step s c)
    show ([c] :: (Stg.add x).outs ((Stg.add x).step s c) z).flatten.length ≤ z.length + 1
    rw [Hs, Qc]
    simp only [Qe, Qh]
    omega
  intro z s
  have := key z s
  omega
theorem Z8u (st : Stg) (z : List Nat) : (st.run z).length ≤ z.length + 1 := by
 unfold Stg.run
 rw [go_eq, Qc]
 have h1 := Z1b st z {}
 have h2 := Z2m st (st.aft {} z) (Z3i st z {} (Qr _))
 have h3 : ({} : Sta).w.length = 0 := rfl
 omega
theorem Zqb : ∀ (sts : List Stg) (z : List Nat), (runR sts z).length ≤ z.length + sts.length
 | [], _ => Qu _
 | st :: sts, z => by
  have := Zqb sts (st.run z)
  have h := Z8u st z
  rw [Zl9, Qe]
  omega
theorem Z2e {ls vw : List Nat} {st : Stg} (ok : st.ok ls vw) : ∀ (z : List Nat) (s : Sta), (∀ c ∈ z, c ∈ 45 :: ls) → (∀ c ∈ s.w, c ∈ 45 :: ls) → ∀ c ∈ st.go s z, c ∈ 45 :: ls
 | [], s, _, hs, c, hc => by
  cases st with
  | drop nm ch a e l =>
   simp only [Stg.go, Stg.fin] at hc
   split at hc
   ·exact hs c hc
   ·cases hc
  | add x =>
   simp only [Stg.go, Stg.fin, Qj] at hc
   rw [hc]
   exact ok
  | write x nm ch => cases hc
  | once nm ch => cases hc
 | d :: z, s, hz, hs, c, hc => by
  have hd := hz d (by simp)
  rcases Q1.mp (show c ∈ st.out s d ++ st.go (st.step s d) z from hc) with h | h
  ·cases st with
   | drop nm ch a e l =>
    have ho : ∀ c ∈ Zeo ch a e s.n d, c ∈ 45 :: ls := fun c hc => by
     unfold Zeo at hc
     split at hc
     ·rw [Qj.mp hc]; exact hd
     ·split at hc
      ·rw [Qj.mp hc]; exact hd
      ·split at hc
       ·cases hc
       ·rw [Qj.mp hc]; exact hd
    simp only [Stg.out] at h
    split at h
    ·rcases Q1.mp h with h | h
     ·exact hs c h
     ·exact ho c h
    ·exact ho c h
   | write x nm ch =>
    simp only [Stg.out] at h
    split at h
    ·rw [Qj.mp h]; exact ok.1
    ·rw [Qj.mp h]; exact hd
   | once nm ch =>
    simp only [Stg.out] at h
    split at h
    ·cases h
    ·rw [Qj.mp h]; exact hd
   | add x =>
    rw [Qj.mp (show c ∈ [d] from h)]
    exact hd
  ·refine Z2e ok z (st.step s d) (fun c hc => hz c (by simp [hc])) (fun c hc => ?_) c h
   cases st with
   | drop nm ch a e l =>
    simp only [Stg.step] at hc
    split at hc
    ·split at hc
     ·cases hc
     ·split at hc
      ·rw [Qj.mp hc]; exact hd
      ·cases hc
    ·cases hc
   | once nm ch => rw [Qj.mp (show c ∈ [d] from hc)]; exact hd
   | write x nm ch => cases hc
   | add x => cases hc
theorem Z4d {ls vw : List Nat} {st : Stg} (ok : st.ok ls vw) {z : List Nat} (h : isW ls z = true) : isW ls (st.run z) = true :=
 Zjo.mpr (Z2e ok z {} (Zjo.mp h) (fun c hc => nomatch hc))
theorem Zs3 {ls vw : List Nat} : ∀ {sts : List Stg} {z : List Nat}, Zc5 ls vw sts → isW ls z = true → isW ls (runR sts z) = true
 | [], _, _, h => h
 | st :: sts, z, ok, h => Zs3 (sts := sts) (fun t ht => ok t (by simp [ht])) (Z4d (ok st (by simp)) h)
theorem Ziq : ∀ (sts : List Stg) (z : List Nat), (Zgl sts z).getLast? = some (runR sts z)
 | [], _ => rfl
 | st :: sts, z => by
  have := Ziq sts (st.run z)
  rw [Zl9]
  show (z :: Zgl sts (st.run z)).getLast? = _
  rw [List.getLast?_cons, this]
  rfl
theorem Zse : ∀ (sts : List Stg) (z : List Nat), (Zgl sts z).length = sts.length + 1
 | [], _ => rfl
 | st :: sts, z => congrArg Nat.succ (Zse sts (st.run z))
def Zcm : DSp := fun ds M Q E => ∃ n ls vw ps, ds = [.cell n, .v (alph ls vw), .v (.tup (Zns ps))] ∧ M[n]? = some (some (.obj .Rule [])) ∧
 (4 < ps.length → E ⟨.BadRule, [.str Z75, .int 5]⟩ M) ∧ (ps.length ≤ 4 → (∃ p ∈ ps, p.1 ≠ (ls, vw)) → E ⟨.Mixed, []⟩ M) ∧
 (ps.length ≤ 4 → (∀ p ∈ ps, p.1 = (ls, vw)) → Q (.v .non) (M.set n (some (.obj .Rule [.v (alph ls vw), .v (.tup (Zns ps))]))))
def Zbp : DSp := fun ds M Q E => ∃ ls vw sts z, ds = [.v (Zcu (alph ls vw) sts), vS z] ∧ Zc5 ls vw sts ∧ sts.length ≤ 10 ∧ z.length ≤ 100 ∧ (isW ls z = false → E ⟨.BadWord, [.str z]⟩ M) ∧
 (isW ls z = true → Q (.cell M.length) (M ++ [some (.lst ((Zgl sts z).map fun y => vS y))]))
def Zbr : DSp := fun ds M Q E => ∃ ls vw sts z, ds = [.v (Zcu (alph ls vw) sts), vS z] ∧ Zc5 ls vw sts ∧ sts.length ≤ 10 ∧ z.length ≤ 100 ∧ (isW ls z = false → E ⟨.BadWord, [.str z]⟩ M) ∧ (isW ls z = true → Q (vS (runR sts z)) M)
def Zbq : DSp := fun ds M Q _ => ∃ al ls vw sts, ds = [.v (Zcu al sts)] ∧ Zc5 ls vw sts ∧ sts.length ≤ 10 ∧ Q (vS (Zbg sts)) M
def Zdi : DSp := fun ds M Q _ => ∃ ls vw sts, ds = [vL (sts.map Stg.tup)] ∧ Zc5 ls vw sts ∧ (∀ c ∈ ls, c ∈ small) ∧ sts.length ≤ 10 ∧ Q (vS (Zbg sts)) M
def Zic : DSp := fun ds M Q _ => ∃ ls vw sts z, ds = [vS ls, vS vw, vL (sts.map Stg.tup), vS z] ∧ Zc5 ls vw sts ∧ ls.length ≤ 60 ∧ sts.length ≤ 10 ∧ z.length ≤ 100 ∧ Q (vS (runR sts z)) M
section
variable (ds : List D) (M : Mem) (Q : DQ) (E : DX)
theorem Zk2 (h : Zbp ds M Q E) : ds.length = 2 := by obtain ⟨_, _, _, _, rfl, _⟩ := h; rfl
theorem Zms (h : Zbr ds M Q E) : ds.length = 2 := by obtain ⟨_, _, _, _, rfl, _⟩ := h; rfl
theorem Zmr (h : Zbq ds M Q E) : ds.length = 1 := by obtain ⟨_, _, _, _, rfl, _⟩ := h; rfl
theorem Zjg (h : Zdi ds M Q E) : ds.length = 1 := by obtain ⟨_, _, _, rfl, _⟩ := h; rfl
theorem Zq2 (h : Zic ds M Q E) : ds.length = 4 := by obtain ⟨_, _, _, _, rfl, _⟩ := h; rfl
end
abbrev Stp := Option (Int × List Nat)
structure OkT (ls : List Nat) (f : List Nat) (rs : List (List Stp)) (es : List (Option (List Nat))) (b : Nat) : Prop where
 ne : rs ≠ []
 le : rs.length = es.length
 fl : f.length ≤ b
 fw : isW ls f = true
 w : ∀ r ∈ rs, r.length = ls.length + 1
 s : ∀ r ∈ rs, ∀ p t, some (p, t) ∈ r → 0 ≤ p ∧ p < rs.length ∧ isW ls t = true ∧ t.length ≤ b
 e : ∀ t, some t ∈ es → isW ls t = true ∧ t.length ≤ b
abbrev Ygo (r : List Int) : PV := .lst (r.map PV.int)
abbrev tabI (rs : List (List Int)) : PV := .lst (rs.map Ygo)
abbrev Ydt (gs : List Bool) : PV := .lst (gs.map PV.bl)
def Yas (o : List Nat) (s : Int) : List Nat := if 0 ≤ s ∧ s.toNat ∉ o then o ++ [s.toNat] else o
def Z04 (rows : List (List Int)) (o : List Nat) (p : Nat) : List Nat := match o[p]? with
 | some q => (rows.getD q []).foldl Yas o
 | none => o
def Zxc (rows : List (List Int)) : List Nat := (List.range rows.length).foldl (Z04 rows) [0]
def Z85 (n : Nat) (rows : List (List Int)) : Prop := ∀ r ∈ rows, ∀ s ∈ r, -1 ≤ s ∧ s < n
def itr {α : Type} (f : α → α) : Nat → α → α
 | 0, x => x
 | n + 1, x => f (itr f n x)
abbrev Ya6 (al : PV) (R : List (List Int)) (G : List Bool) : PV := .obj .Stock [al, tabI R, Ydt G]
def Zdw (E : DX) : DS :=
 dSeq (dIfS (Zae (dOp uGt (dCB uLen (Zaa (dVar 2) dNil)) (dC (.int 4)))) (Zrp .BadRule E (Zaa (dOp uAdd (dC (.int 4)) (dC (.int 1))) (Zaa (dC (.str [99, 111, 117, 110, 116])) dNil))) Zaf) (dSeq (dFor (jTup (dVar 2)) (hName 3) (dIfS (Zae (dOp (uNeO .Alphabet Zaq) (dFld (dVar 3) .alphabet) (dVar 1))) (Zrq .Mixed E) Zaf)) (dSeq (dStF (dVar 0) (dVar 1) .alphabet) (dStF (dVar 0) (Zx2 (dVar 2)) .stages)))
def Zc1 (E : DX) : DS :=
 dSeq (dIfS (dNot (dTru (Zc4 Za4 [] noX (dFld (dVar 0) .alphabet) (Zaa (dVar 1) dNil)))) (Zdc .BadWord E (Zaa (dVar 1) dNil)) Zaf) (dSeq (dAsg (Zrr (Zaa (dVar 1) dNil)) (hName 2)) (dSeq (dFor (jTup (dFld (dVar 0) .stages)) (hName 3) (Zf4 (dBm tyL uApp (dVar 2) (Zaa (Zpd Zrd E (dVar 3) (Zaa (dOp uIx (dVar 2) (dUn uNeg (dC (.int 1)))) dNil)) dNil)))) (dRet (dVar 2))))
def Zdx (E : DX) : DS :=
 dRet (dOp uIx (Zc4 (gm1 .Rule Zbp) [] E (dVar 0) (Zaa (dVar 1) dNil)) (dUn uNeg (dC (.int 1))))
def Zdv : DS :=
 dSeq (dIfS (dNot (dTru (dFld (dVar 0) .stages))) (dRet (dC (.str [107, 101, 101, 112]))) Zaf) (dRet (dBm tyS Zdn (dC (.str [59, 32])) (Zaa (dLc (jTup (dFld (dVar 0) .stages)) (hName 1) dYes (Zc4 Zm3 [] noX (dVar 1) dNil) [1]) dNil)))
def Zfs : DS :=
 dSeq (dFor (jLst (dVar 2)) (hName 4) (dAsg (Zau Zid noX (Zaa (dVar 0) (Zaa (dVar 1) (Zaa (dVar 4) (Zaa (dVar 3) dNil))))) (hName 3))) (dRet (dVar 3))
local macro_rules | `(tactic| walk_at "fz") => `(tactic| repeat with_reducible refine Wg.go ?_)
local macro_rules | `(tactic| walk_at "dw") => `(tactic| (((first | with_reducible refine k_fo (by with_unfolding_all exact rfl) ?_ | fail); walk_at "fz"); walk_at "dw"))
theorem Z79 {ps : List ((List Nat × List Nat) × Stg)} {i : Nat} {x : D} (h : ((Zns ps).map D.v)[i]? = some x) : ∃ p, ps[i]? = some p ∧ x = .v (p.2.pv (alph p.1.1 p.1.2)) := by
 unfold Zns at h
 rw [Qq, Qn] at h
 cases hp : ps[i]? with
 | none => rw [hp] at h; cases h
 | some p => rw [hp] at h; cases h; exact ⟨p, rfl, rfl⟩
theorem Zzw {al : PV} {sts : List Stg} {i : Nat} {x : D} (h : ((sts.map (Stg.pv al)).map D.v)[i]? = some x) : ∃ st, sts[i]? = some st ∧ x = .v (st.pv al) := by
 rw [Qq, Qn] at h
 cases hp : sts[i]? with
 | none => rw [hp] at h; cases h
 | some p => rw [hp] at h; cases h; exact ⟨p, rfl, rfl⟩
theorem Zqi (ds : List D) (M : Mem) (Q : DQ) (E : DX) (h : Zcm ds M Q E) : Zdw E { nx := fun _ M' => Q (.v .non) M', rt := Q } (Zac 4 ds) M := by
 obtain ⟨n, ls, vw, ps, rfl, hM, kc, km, kq⟩ := h
 show Zdw E _ [some (.cell n), some (.v (alph ls vw)), some (vT (Zns ps)), none] M
 unfold Zdw
 have hn := (Qa.mp hM).1
 have gs : ∀ x : Cell, (M.set n (some x))[n]? = some (some x) := fun x => Qs hn
 have hl : (Zns ps).length = ps.length := by simp [Zns]
 walk_at "dz"
 rw [hl]
 refine ite2 (fun h => ?_) (fun h => ?_)
 ·have h4 : 4 < ps.length := by have := of_decide_eq_true h; omega
  walk_at "dz"
  exact ⟨_, _, rfl, kc h4⟩
 have h4 : ps.length ≤ 4 := by
  have : ¬ ((4 : Int) < ps.length) := fun q => h (decide_eq_true q)
  omega
 walk_at "dz"
 refine Za9 (fun i ds M' => M' = M ∧ (∃ v3, ds = [some (.cell n), some (.v (alph ls vw)), some (vT (Zns ps)), v3]) ∧ ∀ j p, j < i → ps[j]? = some p → p.1 = (ls, vw)) ⟨rfl, ⟨_, rfl⟩, fun j p hj => absurd hj (Nat.not_lt_zero _)⟩ ?_ ?_
 ·rintro i x ds M1 N hx ⟨rfl, ⟨v3, rfl⟩, hi⟩ hN
  obtain ⟨p, hp, rfl⟩ := Z79 hx
  walk_at "dz"
  refine Zxy ?_
  walk_at "dz"
  refine ⟨_, _, Zaz, Zaz, p.1.1, p.1.2, ls, vw, rfl, ⟨_, rfl, ?_⟩⟩
  walk_at "dz"
  by_cases he : p.1 = (ls, vw)
  ·have e1 : p.1.1 = ls := by rw [he]
   have e2 : p.1.2 = vw := by rw [he]
   rw [decide_eq_true e1, decide_eq_true e2]
   walk_at "dz"
   refine hN _ _ ⟨rfl, ⟨_, rfl⟩, fun j q hj hq => ?_⟩
   rcases Nat.lt_succ_iff_lt_or_eq.mp hj with hj | rfl
   ·exact hi j q hj hq
   ·rw [hp] at hq
    cases hq
    exact he
  ·have : (decide (p.1.1 = ls) && decide (p.1.2 = vw)) = false := by
    rw [Bool.and_eq_false_iff]
    by_cases e1 : p.1.1 = ls
    ·right
     exact decide_eq_false fun e2 => he (Prod.ext e1 e2)
    ·left
     exact decide_eq_false e1
   rw [this]
   walk_at "dz"
   exact km h4 ⟨p, Qp hp, he⟩
 ·rintro ds M1 ⟨rfl, ⟨v3, rfl⟩, hi⟩
  have hall : ∀ p ∈ ps, p.1 = (ls, vw) := fun p hp => by
   obtain ⟨j, hj, e⟩ := List.getElem_of_mem hp
   exact hi j p (by rw [Qb, hl]; exact hj) (by rw [Qa]; exact ⟨hj, e⟩)
  walk_at "dz"
  refine k_put hM (by with_unfolding_all exact rfl) (by decide) ?_
  walk_at "dz"
  refine k_put (gs _) (by with_unfolding_all exact rfl) (by decide) ?_
  rw [Q2]
  exact kq h4 hall
local macro_rules | `(tactic| walk_at "fz") => `(tactic| repeat with_reducible refine Wg.go ?_)
theorem Ycr {M : Mem} {xs : List PV} {p : Bool → Prop} (h : p (!xs.isEmpty)) : ∃ k, truD M (vT xs) = some k ∧ (∀ z, vT xs = vS z → z.length ≤ sizeLine) ∧ p k := ⟨_, rfl, (fun _ e => by cases e), h⟩
theorem atI_last {α : Type} {z : List α} {x : α} (h : z.getLast? = some x) : atI z (-1) = some x := by
 rw [List.getLast?_eq_getElem?] at h
 have hl : 0 < z.length := by
  have := (Qa.mp h).1
  omega
 unfold atI ixN
 rw [if_neg (by omega), if_pos (by omega)]
 show z[(-1 + (z.length : Int)).toNat]? = some x
 rw [show (-1 + (z.length : Int)).toNat = z.length - 1 by omega]
 exact h
theorem Zos (st : Stg) : ∀ (a : List Stg) (z : List Nat), Zgl (a ++ [st]) z = Zgl a z ++ [st.run (runR a z)]
 | [], _ => rfl
 | b :: a, z => by
  show z :: Zgl (a ++ [st]) (b.run z) = z :: (Zgl a (b.run z) ++ [st.run (runR a (b.run z))])
  rw [Zos st a]
theorem Zn1 (ds : List D) (M : Mem) (Q : DQ) (E : DX) (h : Zbp ds M Q E) : Zc1 E { nx := fun _ M' => Q (.v .non) M', rt := Q } (Zac 4 ds) M := by
 obtain ⟨ls, vw, sts, z, rfl, ok, hl, hz, kE, kQ⟩ := h
 show Zc1 E _ [some (.v (Zcu (alph ls vw) sts)), some (vS z), none, none] M
 unfold Zc1
 walk_at "dz"
 refine k_m Zaz rfl ?_
 walk_at "dz"
 refine ⟨ls, vw, z, rfl, ?_⟩
 walk_at "dz"
 cases hw : isW ls z with
 | false =>
  walk_at "dz"
  exact ⟨_, rfl, rfl, kE hw⟩
 | true =>
  walk_at "dz"
  refine Za9 (fun i ds M' => ∃ v3, M' = M ++ [some (.lst ((Zgl (sts.take i) z).map fun y => vS y))] ∧ ds = [some (.v (Zcu (alph ls vw) sts)), some (vS z), some (.cell M.length), v3]) ⟨_, rfl, rfl⟩ ?_ ?_
  ·rintro i x ds M1 N hx ⟨v3, rfl, rfl⟩ hN
   obtain ⟨st, hst, rfl⟩ := Zzw hx
   have hi := (Qa.mp hst).1
   have hrl := Zqb (sts.take i) z
   rw [Q5] at hrl
   have hrw : isW ls (runR (sts.take i) z) = true := Zs3 (fun t ht => ok t (Gn ht)) hw
   walk_at "dz"
   refine Zvr Zjd ?_
   walk_at "dz"
   refine ⟨d_ob st, ?_⟩
   walk_at "dz"
   refine Zk7 (Qi ..) (atI_last (x := vS (runR (sts.take i) z)) (by rw [List.getLast?_map, Ziq]; rfl)) ?_
   walk_at "dz"
   refine Yd4 st ⟨ls, vw, st, _, rfl, by omega, (fun h => by rw [hrw] at h; cases h), fun _ => ?_⟩
   walk_at "dz"
   refine Ztw (by rw [Qb, Zse, Q5, sizeLine_eq]; omega) ?_
   refine hN _ _ ⟨_, ?_, rfl⟩
   rw [Ht, hst, Gi, Zos, Qv]
   rfl
  ·rintro ds M1 ⟨v3, rfl, rfl⟩
   walk_at "dz"
   have e : sts.take ((sts.map (Stg.pv (alph ls vw))).map D.v).length = sts := by
    rw [Qb, Qb]
    exact Q9
   rw [e]
   exact kQ hw
theorem Zqj (ds : List D) (M : Mem) (Q : DQ) (E : DX) (h : Zbr ds M Q E) : Zdx (Zbf M E) { nx := fun _ M' => Zab M Q (.v .non) M', rt := Zab M Q } (Zac 2 ds) M := by
 obtain ⟨ls, vw, sts, z, rfl, ok, hl, hz, kE, kQ⟩ := h
 show Zdx (Zbf M E) _ [some (.v (Zcu (alph ls vw) sts)), some (vS z)] M
 unfold Zdx
 walk_at "dz"
 refine ⟨ls, vw, sts, z, rfl, ok, hl, hz, fun h => Zc6 (kE h), fun h => ?_⟩
 walk_at "dz"
 refine Zk7 (Qi ..) (atI_last (x := vS (runR sts z)) (by rw [List.getLast?_map, Ziq]; rfl)) ?_
 exact Z72 (kQ h)
theorem Zqh (ds : List D) (M : Mem) (Q : DQ) (E : DX) (h : Zbq ds M Q E) : Zdv { nx := fun _ M' => Zab M Q (.v .non) M', rt := Zab M Q } (Zac 2 ds) M := by
 obtain ⟨al, ls, vw, sts, rfl, ok, hl, q⟩ := h
 show Zdv _ [some (.v (Zcu al sts)), none] M
 unfold Zdv
 walk_at "dz"
 refine Ycr ?_
 unfold Zbg at q
 cases sts with
 | nil =>
  rw [if_pos rfl] at q
  walk_at "dz"
  exact Zad q
 | cons st0 sts0 =>
  rw [if_neg (by simp)] at q
  revert ok hl q
  generalize hs : st0 :: sts0 = sts
  intro ok hl q
  have hne : (!(sts.map (Stg.pv al)).isEmpty) = true := by rw [← hs]; rfl
  rw [hne]
  walk_at "dz"
  refine Zrw (fun i acc M' => M' = M ∧ acc = ((sts.take i).map Stg.text).map PV.str) ⟨rfl, rfl⟩ ?_ ?_
  ·rintro i x acc M1 N hx ⟨rfl, rfl⟩ hN
   obtain ⟨st, hst, rfl⟩ := Zzw hx
   walk_at "dz"
   refine Yd2 st (ok st (Qp hst)) fun sp hsp => ?_
   walk_at "dz"
   refine hsp ?_
   refine ⟨_, rfl, by rw [Qb, Qb, Q5, sizeLine_eq]; omega, hN _ _ ⟨rfl, ?_⟩⟩
   rw [Ht, hst]
   simp
  ·rintro acc M1 ⟨rfl, rfl⟩
   have e : (sts.take ((sts.map (Stg.pv al)).map D.v).length) = sts := by
    rw [Qb, Qb]
    exact Q9
   rw [e]
   walk_at "dz"
   refine Zm0 rfl ?_ ?_
   ·have h2 : ∀ l : List Stg, (∀ y ∈ l, y.ok ls vw) → ((l.map Stg.text).map List.length).sum ≤ 150 * l.length := by
     intro l
     induction l with
     | nil => intro _; simp
     | cons x l ih =>
      intro hx
      have a := text_len (hx x (by simp))
      have b := ih fun p hm => hx p (by simp [hm])
      rw [Q3, Q3, Hz, Qe]
      omega
    have := h2 sts ok
    rw [Qb]
    simp only [Qe, Qh]
    omega
   ·exact Zad q
local macro_rules | `(tactic| walk_at "fz") => `(tactic| repeat with_reducible refine Wg.go ?_)
theorem Zx8 {M : Mem} {Q : DQ} {X : DX} {ls vw : List Nat} {sts : List Stg} (h4 : sts.length ≤ 4) (h : Q (.v (Zcu (alph ls vw) sts)) M) : ∃ al ps, (D.v (alph ls vw) :: (sts.map (Stg.pv (alph ls vw))).map D.v) = al :: ps.map D.v ∧ ps.length ≤ sizeLine ∧
  Zcm [.cell M.length, al, .v (.tup ps)] (M ++ [some (.obj .Rule [])]) (mkQ .Rule M Q) (Zbf M X) := by
 refine ⟨_, _, rfl, by rw [Qb, sizeLine_eq]; omega, ?_⟩
 rw [← Zw0]
 refine ⟨M.length, ls, vw, _, rfl, Qi .., fun h => ?_, fun _ ⟨p, hp, ne⟩ => ?_, fun _ _ => ?_⟩
 ·rw [Qb] at h
  omega
 ·obtain ⟨_, _, rfl⟩ := Qz.mp hp
  exact absurd rfl ne
 ·rw [Zw0]
  exact Zfy (ps := [alph ls vw, .tup (sts.map (Stg.pv (alph ls vw)))]) h
theorem Zzn {sts : List Stg} {i : Nat} {x : D} (h : ((sts.map Stg.tup).map D.v)[i]? = some x) : ∃ st, sts[i]? = some st ∧ x = .v st.tup := by
 rw [Qq, Qn] at h
 cases hp : sts[i]? with
 | none => rw [hp] at h; cases h
 | some p => rw [hp] at h; cases h; exact ⟨p, rfl, rfl⟩
theorem Zvf (ds : List D) (M : Mem) (Q : DQ) (E : DX) (h : Zic ds M Q E) : Zfs { nx := fun _ M' => Zab M Q (.v .non) M', rt := Zab M Q } (Zac 5 ds) M := by
 obtain ⟨ls, vw, sts, z, rfl, ok, hll, hl, hz, q⟩ := h
 show Zfs _ [some (vS ls), some (vS vw), some (vL (sts.map Stg.tup)), some (vS z), none] M
 unfold Zfs
 walk_at "dz"
 refine Za9 (fun i ds M' => M' = M ∧ ∃ v4, ds = [some (vS ls), some (vS vw), some (vL (sts.map Stg.tup)), some (vS (runR (sts.take i) z)), v4]) ⟨rfl, _, rfl⟩ ?_ ?_
 ·rintro i x ds M1 N hx ⟨rfl, v4, rfl⟩ hN
  obtain ⟨st, hst, rfl⟩ := Zzn hx
  have hrl := Zqb (sts.take i) z
  rw [Q5] at hrl
  walk_at "dz"
  refine ⟨ls, vw, st, _, rfl, ok st (Qp hst), hll, by omega, ?_⟩
  walk_at "dz"
  refine hN _ _ ⟨rfl, some (.v st.tup), ?_⟩
  rw [Ht, hst, Gi, Z4e]
  rfl
 ·rintro ds M1 ⟨rfl, v4, rfl⟩
  have e : sts.take ((sts.map Stg.tup).map D.v).length = sts := by
   rw [Qb, Qb]
   exact Q9
  rw [e]
  walk_at "dz"
  exact Zad q
theorem Zzp (st : Stg) : ∃ c r, st.text = c :: r ∧ c ≠ 107 := by
 cases st with
 | drop nm ch a e l => exact ⟨100, _, rfl, by decide⟩
 | write x nm ch => exact ⟨119, _, rfl, by decide⟩
 | once nm ch => exact ⟨111, _, rfl, by decide⟩
 | add x => exact ⟨97, _, rfl, by decide⟩
theorem Z2g (s : List Nat) (a : List Nat) (r : List (List Nat)) : ∃ t, glue s (a :: r) = a ++ t := by
 cases r with
 | nil => exact ⟨[], by simp [glue]⟩
 | cons b r => exact ⟨_, by rw [glue]⟩
theorem Zot {sts : List Stg} (h : Zbg sts = Z54) : sts = [] := by
 cases sts with
 | nil => rfl
 | cons st sts =>
  unfold Zbg at h
  rw [if_neg (by simp)] at h
  obtain ⟨c, r, e, hc⟩ := Zzp st
  obtain ⟨t, e2⟩ := Z2g [59, 32] st.text (sts.map Stg.text)
  rw [Q3, e2, e] at h
  exact absurd (Hy h).1 hc
theorem Zsg {ls vw : List Nat} {sts : List Stg} (hne : sts ≠ []) (ok : Zc5 ls vw sts) (sm : ∀ c ∈ ls, c ∈ small) : TL.spl [59, 32] 0 [] (Zbg sts) = sts.map Stg.text := by
 unfold Zbg
 rw [if_neg hne]
 refine Zw2 (by simpa using hne) fun p hp hc => ?_
 obtain ⟨st, hs, rfl⟩ := Qz.mp hp
 have := Zsf (ok st hs) sm 59 hc
 revert this
 decide
theorem Zsh {ls vw : List Nat} {sts : List Stg} (ok : Zc5 ls vw sts) (sm : ∀ c ∈ ls, c ∈ small) : ∀ c ∈ Zbg sts, c < 1114112 := fun c hc => by
 unfold Zbg at hc
 by_cases h : sts = []
 ·rw [if_pos h] at hc
  revert hc c
  decide
 ·rw [if_neg h] at hc
  rcases Zre hc with h | ⟨y, hy, hc⟩
  ·have key : ∀ x ∈ [59, 32], x < 1114112 := by decide
   exact key c h
  ·obtain ⟨st, hs, rfl⟩ := Qz.mp hy
   exact Zwy (ok st hs) sm c hc
def Zcf : DS :=
 dSeq (dIfS (Zae (dOp uEq (dVar 0) (dLst dNil))) (dRet (dC (.str [107, 101, 101, 112]))) Zaf) (dRet (dBm tyS Zdn (dC (.str [59, 32])) (Zaa (dLc (jLst (dVar 0)) (hName 1) dYes (Zau Zbz noX (Zaa (dVar 1) dNil)) [1]) dNil)))
local macro_rules | `(tactic| walk_at "fz") => `(tactic| repeat with_reducible refine Wg.go ?_)
theorem Yej {ls : List Nat} (sm : ∀ c ∈ ls, c ∈ small) {c : Nat} (h : c ∈ 45 :: ls) : c < 1114112 := by
 have key : ∀ x ∈ small, x < 1114112 := by decide
 rcases Qg.mp h with rfl | h
 ·decide
 ·exact key c (sm c h)
theorem Z9e {ls vw : List Nat} {st : Stg} (o : st.ok ls vw) (sm : ∀ c ∈ ls, c ∈ small) : st.tup.lay 59 = true := by
 have nm_ok : ∀ {nm : List Nat}, okN ls nm → (PV.str nm).lay 58 = true := fun {nm} h => by
  show nm.all (· < 1114112) = true
  rw [Q8]
  intro c hc
  have key : ∀ x ∈ Zj3, x < 1114112 := by decide
  exact decide_eq_true (key c (Zd7 h sm c hc))
 have x_ok : ∀ {x : Nat}, x ∈ 45 :: ls → (PV.str [x]).lay 58 = true := fun {x} h => by
  show [x].all (· < 1114112) = true
  rw [Gq, decide_eq_true (Yej sm h)]
  rfl
 have two : ∀ xs : List PV, (∀ x ∈ xs, x.lay 58 = true) → (PV.tup xs).lay 59 = true := fun xs h => (PV.Zh9 58 xs).mpr h
 cases st with
 | drop nm ch a e l =>
  refine two _ fun x hx => ?_
  simp only [Qg, Qm, or_false] at hx
  rcases hx with rfl | rfl | rfl | rfl | rfl
  ·decide
  ·exact nm_ok o.1
  ·rfl
  ·rfl
  ·rfl
 | write x nm ch =>
  refine two _ fun y hx => ?_
  simp only [Qg, Qm, or_false] at hx
  rcases hx with rfl | rfl | rfl
  ·decide
  ·exact x_ok o.1
  ·exact nm_ok o.2.1
 | once nm ch =>
  refine two _ fun y hx => ?_
  simp only [Qg, Qm, or_false] at hx
  rcases hx with rfl | rfl
  ·decide
  ·exact nm_ok o.1
 | add x =>
  refine two _ fun y hx => ?_
  simp only [Qg, Qm, or_false] at hx
  rcases hx with rfl | rfl
  ·decide
  ·exact x_ok o
theorem Z4u {ls vw : List Nat} {sts : List Stg} (o : Zc5 ls vw sts) (sm : ∀ c ∈ ls, c ∈ small) : (PV.lst (sts.map Stg.tup)).lay 60 = true :=
 (PV.Zh9 59 _).mpr fun x hx => by
  obtain ⟨st, hs, rfl⟩ := Qz.mp hx
  exact Z9e (o st hs) sm
theorem Zmb (ds : List D) (M : Mem) (Q : DQ) (E : DX) (h : Zdi ds M Q E) : Zcf { nx := fun _ M' => Zab M Q (.v .non) M', rt := Zab M Q } (Zac 2 ds) M := by
 obtain ⟨ls, vw, sts, rfl, ok, sm, hl, q⟩ := h
 show Zcf _ [some (vL (sts.map Stg.tup)), none] M
 unfold Zcf
 have hlay := Z4u ok sm
 walk_at "dz"
 unfold Zbg at q
 cases sts with
 | nil =>
  rw [if_pos rfl] at q
  refine Z9n (b := .lst []) rfl hlay rfl ?_
  walk_at "dz"
  exact Zad q
 | cons st0 sts0 =>
  rw [if_neg (by simp)] at q
  refine Z9n (b := .lst []) rfl hlay rfl ?_
  rw [show eqvP (.lst ((st0 :: sts0).map Stg.tup)) (.lst []) = false from rfl]
  revert ok hl q
  generalize st0 :: sts0 = sts
  intro ok hl q
  walk_at "dz"
  refine Zrw (fun i acc M' => M' = M ∧ acc = ((sts.take i).map Stg.text).map PV.str) ⟨rfl, rfl⟩ ?_ ?_
  ·rintro i x acc M1 N hx ⟨rfl, rfl⟩ hN
   obtain ⟨st, hst, rfl⟩ := Zzn hx
   walk_at "dz"
   refine ⟨st, rfl, ⟨ls, vw, ok st (Qp hst)⟩, ?_⟩
   refine ⟨_, rfl, by rw [Qb, Qb, Q5, sizeLine_eq]; omega, hN _ _ ⟨rfl, ?_⟩⟩
   rw [Ht, hst]
   simp
  ·rintro acc M1 ⟨rfl, rfl⟩
   have e : sts.take ((sts.map Stg.tup).map D.v).length = sts := by
    rw [Qb, Qb]
    exact Q9
   rw [e]
   walk_at "dz"
   refine Zm0 rfl ?_ ?_
   ·have h2 : ∀ l : List Stg, (∀ y ∈ l, y.ok ls vw) → ((l.map Stg.text).map List.length).sum ≤ 150 * l.length := by
     intro l
     induction l with
     | nil => intro _; simp
     | cons x l ih =>
      intro hx
      have a := text_len (hx x (by simp))
      have b := ih fun p hm => hx p (by simp [hm])
      rw [Q3, Q3, Hz, Qe]
      omega
    have := h2 sts ok
    rw [Qb]
    simp only [Qe, Qh]
    omega
   ·exact Zad q
local macro_rules | `(tactic| walk_at "fz") => `(tactic| repeat with_reducible refine Wg.go ?_)
local macro_rules | `(tactic| walk_at "fz") => `(tactic| repeat with_reducible refine Wg.go ?_)
local macro_rules | `(tactic| walk_at "fz") => `(tactic| repeat with_reducible refine Wg.go ?_)
local macro_rules | `(tactic| walk_at "fz") => `(tactic| repeat with_reducible refine Wg.go ?_)
local macro_rules | `(tactic| walk_at "fz") => `(tactic| repeat with_reducible refine Wg.go ?_)
theorem getA {α : Type} {M1 L : List α} {n : Nat} (h : M1.length = n) (k : Nat) : (M1 ++ L)[n + k]? = L[k]? := by
 subst h
 rw [Hu (L4 ..), L8]
theorem setA {α : Type} {M1 L : List α} {n : Nat} (h : M1.length = n) (k : Nat) (y : α) : (M1 ++ L).set (n + k) y = M1 ++ L.set k y := by
 subst h
 rw [Ti _ _ (L4 ..), L8]
local macro_rules | `(tactic| walk_at "fz") => `(tactic| repeat with_reducible refine Wg.go ?_)
theorem OkT.mono {ls f : List Nat} {rs : List (List Stp)} {es : List (Option (List Nat))} {b c : Nat} (ok : OkT ls f rs es b) (h : b ≤ c) : OkT ls f rs es c :=
 ⟨ok.ne, ok.le, Hb ok.fl h, ok.fw, ok.w, fun r hr p t ht => let ⟨a1, a2, a3, a4⟩ := ok.s r hr p t ht; ⟨a1, a2, a3, Hb a4 h⟩, fun t ht => let ⟨a1, a2⟩ := ok.e t ht; ⟨a1, Hb a2 h⟩⟩
theorem OkT.first {ls f g : List Nat} {rs : List (List Stp)} {es : List (Option (List Nat))} {b : Nat} (ok : OkT ls f rs es b) (h : isW ls g = true) (hl : g.length ≤ b) : OkT ls g rs es b := ⟨ok.ne, ok.le, hl, h, ok.w, ok.s, ok.e⟩
theorem Z9x {α β : Type} {f : α → β} {xs : List α} {k : Nat} {y : β} (h : (xs.map f)[k]? = some y) : ∃ x, xs[k]? = some x ∧ y = f x := by
 rw [Qn] at h
 cases e : xs[k]? with
 | none => rw [e] at h; cases h
 | some x => rw [e] at h; cases h; exact ⟨x, rfl, rfl⟩
section
variable {i : Nat} {ds : DSt} {M : Mem} {P : List PV → Mem → Prop} {te : DE} {tt : DT}
theorem Zy2 {α : Type} (inj : α → D) (xs : List α) (keep : α → Bool) (f : α → PV) (hi : i < ds.length) (hl : xs.length ≤ sizeLine) (htt : ∀ x ∈ xs, ∀ QB : Bool → Mem → Prop, QB (keep x) M → tt (ds.set i (some (inj x))) M QB) (hte : ∀ x ∈ xs, keep x = true → ∀ Q : DQ, Q (.v (f x)) M → te (ds.set i (some (inj x))) M Q) (h : P ((xs.filter keep).map f) M) :
  Zec (hName i) tt te ds P (xs.map inj) [] M := by
 refine Zrw (fun k acc M' => M' = M ∧ acc = ((xs.take k).filter keep).map f) ⟨rfl, rfl⟩ ?_ ?_
 ·rintro k y acc M' N hy ⟨rfl, rfl⟩ hN
  obtain ⟨x, hx, rfl⟩ := Z9x hy
  have hm := Qp hx
  have hk := (Qa.mp hx).1
  refine Zo7 (htt x hm _ ?_)
  have tk : xs.take (k + 1) = xs.take k ++ [x] := by rw [Ht, hx]; rfl
  cases e : keep x with
  | true =>
   rw [if_pos rfl]
   refine hte x hm e _ ⟨f x, rfl, ?_, hN _ _ ⟨rfl, ?_⟩⟩
   ·rw [Qb]
    have := Th keep (xs.take k)
    rw [Q5] at this
    omega
   ·rw [tk, List.filter_append, Qv, List.filter_cons_of_pos e]; rfl
  | false =>
   rw [if_neg Lr]
   refine hN _ _ ⟨rfl, ?_⟩
   rw [tk, List.filter_append, Qv, List.filter_cons_of_neg (by rw [e]; exact Lr)]
   simp
 ·rintro acc M' ⟨rfl, rfl⟩
  rw [Qb, Q9]
  exact h
theorem Zf5 {α : Type} (inj : α → D) (xs : List α) (f : α → PV) (hi : i < ds.length) (hl : xs.length ≤ sizeLine) (hte : ∀ x ∈ xs, ∀ Q : DQ, Q (.v (f x)) M → te (ds.set i (some (inj x))) M Q) (h : P (xs.map f) M) : Zec (hName i) dYes te ds P (xs.map inj) [] M :=
 Zy2 inj xs (fun _ => true) f hi hl (fun x _ QB q => Z1x q) (fun x hx _ => hte x hx) (by rw [List.filter_eq_self.mpr fun _ _ => rfl]; exact h)
end
section
variable {S : Sc}
def Zue (k : Cn) (g : DSp) (Ed : DX) (f : DE) (a : DA) : DE := fun ds M Q => f ds M fun y M0 => y = .v (.cls k) ∧ Zng k g [] Ed a ds M0 Q
theorem Zsx {k : Cn} {g : DSp} {E : XK} {Ed : DX} {tf : TE} {df : DE} {tr : TA} {dr : DA} (hk : k ∈ S.cs) (px : PoX S S.c0 S.M0 Ed E) (hf : SimE S tf df) (ha : SimA S tr dr) : SimE S (Zhj (ga S.K k.str) (fun vs => spD S.K S.cs g (vs ++ [])) E tf tr) (Zue k g Ed df dr) := fun c M σ ds Q Qd ok rs q po =>
 hf c M σ ds _ _ ok rs q fun c0 M0 v0 d0 s0 r0 p0 ⟨e0, q0⟩ => by
  subst e0
  exact ⟨p0, Zpt (dv := []) (vv := []) hk (fun _ => (rfl : ([] : List V) = [])) px ha c0 M0 σ ds _ _ (ok.step s0 r0) (rs.step s0) q0 (po.step s0)⟩
theorem Z9k {k : Cn} {g : DSp} {Ed : DX} {f : DE} {a : DA} {ds : DSt} {M : Mem} {Q : DQ} (h : f ds M fun y M0 => y = .v (.cls k) ∧ Zng k g [] Ed a ds M0 Q) : Zue k g Ed f a ds M Q := h
instance {k : Cn} {g : DSp} {Ed : DX} {f : DE} {a : DA} {ds : DSt} {M : Mem} {Q : DQ} : Wg (Zue k g Ed f a ds M Q) (f ds M fun y M0 => y = .v (.cls k) ∧ Zng k g [] Ed a ds M0 Q) := ⟨Z9k⟩
theorem set_same {α : Type} {l : List α} {i : Nat} {x : α} (h : l[i]? = some x) : l.set i x = l := by
 refine List.ext_getElem? fun j => ?_
 by_cases e : i = j
 ·subst e
  rw [Qs (Qa.mp h).1, h]
 ·rw [Q4 e]
theorem Z5c {c : CS} {M M2 : Mem} {x : D} {y : PV} {v : V} (ok : S.Ok c M) (rv : S.Vd c x v) (e : frz M x = some (y, M2)) : ∃ c2 : CS, c2.H = c.H ∧ Step c M c2 M2 ∧ Rel S.K S.cs c2 M2 ∧ S.Vd c2 (.v y) v := by
 have st : S.St c [some x] [some v] := ⟨rfl, fun i d h => by
  cases i with
  | zero => cases h; exact ⟨v, rfl, rv⟩
  | succ i => simp at h⟩
 obtain ⟨w, h1, h2⟩ := Zp0 (S := S) (Zah (i := 0)) c M [some v] [some x] (fun w H' => ∃ c2 : CS, c2.H = H' ∧ Step c M c2 M2 ∧ Rel S.K S.cs c2 M2 ∧ S.Vd c2 (.v y) w) (fun d M' => d = .v y ∧ M' = M2) ok st ⟨x, rfl, y, M2, e, rfl, rfl⟩ fun c' M' v' d s r p ⟨e1, e2⟩ => by
  subst e1 e2
  exact ⟨c', rfl, s, r, p⟩
 cases h1
 exact h2
def dFz (i : Nat) (d : DS) : DS := fun E ds M => d { E with nx := fun ds' M' => ∃ x y M2, ds'[i]? = some (some x) ∧ frz M' x = some (y, M2) ∧ E.nx (ds'.set i (some (.v y))) M2 } ds M
theorem k_fz {i : Nat} {d : DS} {E : Zfi} {ds : DSt} {M : Mem} (h : d { E with nx := fun ds' M' => ∃ x y M2, ds'[i]? = some (some x) ∧ frz M' x = some (y, M2) ∧ E.nx (ds'.set i (some (.v y))) M2 } ds M) : dFz i d E ds M := h
instance {i : Nat} {d : DS} {E : Zfi} {ds : DSt} {M : Mem} : Wg (dFz i d E ds M) (d { E with nx := fun ds' M' => ∃ x y M2, ds'[i]? = some (some x) ∧ frz M' x = some (y, M2) ∧ E.nx (ds'.set i (some (.v y))) M2 } ds M) := ⟨k_fz⟩
theorem Z6f {i : Nat} {t : TS} {d : DS} (h : SimS S t d) : SimS S t (dFz i d) := fun c M σ ds D' Dd ok rs q po => by
 refine h c M σ ds D' _ ok rs q ⟨fun c' M' σ' ds' s r p ⟨x, y, M2, e1, e2, q2⟩ => ?_, po.rt, po.bk, po.ct⟩
 obtain ⟨v, e3, rv⟩ := p.2 i x e1
 obtain ⟨c2, e4, s2, r2, rv2⟩ := Z5c (ok.step s r) rv e2
 rw [← e4]
 refine po.nx c2 M2 σ' _ (s.trans s2) r2 ?_ q2
 have p2 := p.step s2
 have := p2.set (i := i) rv2
 rw [show σ'.set i (some v) = σ' from set_same e3] at this
 exact this
end
def padR (n : Nat) (z : List Nat) : List Nat := z ++ List.replicate (n - z.length) 32
def padL (n : Nat) (z : List Nat) : List Nat := List.replicate (n - z.length) 32 ++ z
section
variable {S' : Sc}
def Ya0 : DM := fun x xs M Q => ∃ (z : List Nat) (n : Nat), x = vS z ∧ xs = [vI n] ∧ PadOk (n : Int) = true ∧ Q (vS (padR n z)) M
def Yaz : DM := fun x xs M Q => ∃ (z : List Nat) (n : Nat), x = vS z ∧ xs = [vI n] ∧ PadOk (n : Int) = true ∧ Q (vS (padL n z)) M
end
section
variable {ds : DSt} {M : Mem} {Q : DQ} {a : DE}
theorem Z10 {z : List Nat} {n : Nat} (hn : PadOk (n : Int) = true) (h : Q (vS (padR n z)) M) : Ya0 (vS z) [vI n] M Q := ⟨z, n, rfl, rfl, hn, h⟩
theorem Z1y {z : List Nat} {n : Nat} (hn : PadOk (n : Int) = true) (h : Q (vS (padL n z)) M) : Yaz (vS z) [vI n] M Q := ⟨z, n, rfl, rfl, hn, h⟩
end
end Cl
namespace Cl
open PySem PySem.Spec PyProof.Rows L2 He
def Zpi (z : List Nat) (tl : TS) : List (List Nat × TS) → TS
 | [] => tl
 | (k, t) :: cs => fun D σ H => if z = k then t D σ H else Zpi z tl cs D σ H
def Ya4 (te : TE) (cs : List (List Nat × TS)) (tl : TS) : TS := fun D σ H => te σ H fun x H1 => ∃ z, x = sv z ∧ Zpi z tl cs D σ H1
inductive PCs (X : Cx) : List MatchCase → List (List Nat × TS) → TS → Prop
 | last {body : List Stmt} {t : TS} {pos : Pos} : PSs X body t → PCs X [⟨.MatchAs none none pos, none, body⟩] [] t
 | cons {c : Str} {j : Nat} {cpos pos : Pos} {body : List Stmt} {t tl : TS} {rest : List MatchCase} {cs : List (List Nat × TS)} {k : List Nat} : PE X (.Constant (.str c) j cpos) (tC (sv k)) → PSs X body t → PCs X rest cs tl →
  PCs X (⟨.MatchValue (.Constant (.str c) j cpos) pos, none, body⟩ :: rest) ((k, t) :: cs) tl
end Cl
namespace Cl
open PySem PySem.Spec PyProof.Rows L2 He ClX
section
variable {S : Sc}
def Zx5 (z : List Nat) (dl : DS) : List (List Nat × DS) → DS
 | [] => dl
 | (k, d) :: cs => fun E ds M => if z = k then d E ds M else Zx5 z dl cs E ds M
def Yd8 (a : DE) (cs : List (List Nat × DS)) (dl : DS) : DS := fun E ds M => a ds M fun x M1 => ∃ z, x = vS z ∧ Zx5 z dl cs E ds M1
inductive Zwe (S : Sc) : List (List Nat × TS) → List (List Nat × DS) → Prop
 | nil : Zwe S [] []
 | cons {k : List Nat} {t : TS} {d : DS} {cs : List (List Nat × TS)} {ds : List (List Nat × DS)} : SimS S t d → Zwe S cs ds → Zwe S ((k, t) :: cs) ((k, d) :: ds)
theorem Zyh {z : List Nat} {tl : TS} {dl : DS} {cs : List (List Nat × TS)} {dcs : List (List Nat × DS)} (h : Zwe S cs dcs) (hl : SimS S tl dl) : SimS S (Zpi z tl cs) (Zx5 z dl dcs) := by
 induction h with
 | nil => exact hl
 | @cons k t d cs ds hs _ ih =>
  intro c M σ dst E Ed ok rs q po
  show if z = k then t E σ c.H else Zpi z tl cs E σ c.H
  have q' : if z = k then d Ed dst M else Zx5 z dl ds Ed dst M := q
  by_cases e : z = k
  ·rw [if_pos e] at q' ⊢
   exact hs c M σ dst E Ed ok rs q' po
  ·rw [if_neg e] at q' ⊢
   exact ih c M σ dst E Ed ok rs q' po
theorem Z0k {te : TE} {de : DE} {tl : TS} {dl : DS} {cs : List (List Nat × TS)} {dcs : List (List Nat × DS)} (ha : SimE S te de) (h : Zwe S cs dcs) (hl : SimS S tl dl) : SimS S (Ya4 te cs tl) (Yd8 de dcs dl) := fun c M σ ds E Ed ok rs q po =>
 ha c M σ ds _ _ ok rs q fun c1 M1 v1 d1 s1 r1 p1 ⟨z, e, q1⟩ => by
  subst e
  cases (show v1 = sv z from p1)
  exact ⟨z, rfl, Zyh h hl c1 M1 σ ds E Ed (ok.step s1 r1) (rs.step s1) q1 (po.step s1)⟩
def Yd6 (o a : DE) (f : Fd) : DS := fun E ds M => o ds M fun x M1 => ∃ i k ys n, x = .cell i ∧ M1[i]? = some (some (.obj k ys)) ∧ ys[k.ix f]? = some (vI n) ∧ a ds M1 fun y M2 => ∃ j, y = vI j ∧ M2[i]? = some (some (.obj k ys)) ∧ E.nx ds (M2.set i (some (.obj k (ys.set (k.ix f) (vI (n + j))))))
def Zzs : TS := fun _ _ _ => False
theorem Zo3 {X : Cx} {body : List Stmt} : PSs X body Zzs := ⟨fun _ _ _ _ _ _ h => h.elim⟩
def Z97 : DS := fun _ _ _ => False
theorem Zyg : SimS S Zzs Z97 := fun _ _ _ _ _ _ _ _ q _ => q.elim
end
section
variable {ds : DSt} {M : Mem} {E : Zfi} {a o : DE} {cs : List (List Nat × DS)} {dl : DS} {f : Fd} {r : DA} {Q : DQ} {k : Cn} {g : DSp} {dv : List PV} {Ed : DX}
theorem Ycv (h : o ds M fun x M1 => ∃ i k ys n, x = .cell i ∧ M1[i]? = some (some (.obj k ys)) ∧ ys[k.ix f]? = some (vI n) ∧ a ds M1 fun y M2 => ∃ j, y = vI j ∧ M2[i]? = some (some (.obj k ys)) ∧ E.nx ds (M2.set i (some (.obj k (ys.set (k.ix f) (vI (n + j))))))) : Yd6 o a f E ds M := h
end
local macro_rules | `(tactic| walk_at "zv") => `(tactic| first | (dsimp only [Hg, Hr, Hh, Hi]; done) | (with_unfolding_all exact rfl))
local macro_rules | `(tactic| walk_at "sz") => `(tactic| (rw [sizeLine_eq]; (try simp only [Qc, Qe, Qh, Qb, Qt]); omega))
local macro_rules | `(tactic| walk_at "fz") => `(tactic| repeat with_reducible refine Wg.go ?_)
local macro_rules | `(tactic| walk_at "dw") => `(tactic| skip)
local macro_rules | `(tactic| walk_at "dx") => `(tactic| skip)
local macro_rules | `(tactic| walk_at "ds") => `(tactic| (walk_at "fz"; walk_at "dw"))
local macro_rules | `(tactic| walk_at "dz") => `(tactic| (walk_at "ds"; walk_at "dx"))
local macro_rules | `(tactic| walk_at "dx") => `(tactic| (((first | with_reducible refine z_eq ?_ | with_reducible refine Z7u ?_ | with_reducible refine z_F (c := isNon (.v _)) (by with_unfolding_all exact rfl) ?_ | with_reducible refine z_nF (c := isNon (.v _)) (by with_unfolding_all exact rfl) ?_ | with_reducible refine z_T (c := isNon (.v _)) (by with_unfolding_all exact rfl) ?_ | with_reducible refine z_nT (c := isNon (.v _)) (by with_unfolding_all exact rfl) ?_ | with_reducible refine z_F (by decide) ?_ | with_reducible refine z_T (by decide) ?_ | with_reducible refine z_nF (by decide) ?_ | with_reducible refine z_nT (by decide) ?_ | fail); walk_at "ds"); walk_at "dx"))
local macro_rules | `(tactic| walk_at "dw") => `(tactic| (((first | with_reducible refine Ztt (by first | (dsimp only [Hg, Hr, Hh, Hi]; done) | (with_unfolding_all exact rfl)) ?_ | with_reducible refine Z16 (by with_unfolding_all exact rfl) ?_ | with_reducible refine k_pu (by with_unfolding_all exact rfl) (by (rw [sizeLine_eq]; (try simp only [Qc, Qe, Qh, Qb, Qt]); omega)) ?_ | with_reducible refine iteT ?_ | with_reducible refine k_eq (by with_unfolding_all exact rfl) ?_ | with_reducible refine iteF ?_ | with_reducible refine k_sz (by (rw [sizeLine_eq]; (try simp only [Qc, Qe, Qh, Qb, Qt]); omega)) ?_ | with_reducible refine k_ne (by with_unfolding_all exact rfl) ?_ | with_reducible refine Zxp (by (rw [sizeLine_eq]; (try simp only [Qc, Qe, Qh, Qb, Qt]); omega)) ?_ | with_reducible refine Ze1 (by (rw [sizeLine_eq]; (try simp only [Qc, Qe, Qh, Qb, Qt]); omega)) ?_ | with_reducible refine Zxr _ ?_ | with_reducible refine Zka (by rfl) ?_ | with_reducible refine Zei (by with_unfolding_all exact rfl) ?_ | with_reducible refine Z4y (by (rw [sizeLine_eq]; (try simp only [Qc, Qe, Qh, Qb, Qt]); omega)) ?_ | fail); walk_at "fz"); walk_at "dw"))
local macro_rules | `(tactic| walk_at "dx") => `(tactic| (((first | with_reducible refine Z15 ?_ | with_reducible refine Z14 ?_ | with_reducible refine Z13 ?_ | with_reducible refine Z12 ?_ | with_reducible refine Z7w (by first | omega | (simp; done) | (simp; omega)) ?_ | with_reducible refine Z7v (by first | omega | (simp; done) | (simp; omega)) ?_ | with_reducible refine Zzc (by first | omega | (simp; done) | (simp; omega)) ?_ | with_reducible refine Zzb (by first | omega | (simp; done) | (simp; omega)) ?_ | with_reducible refine Z7y (by first | omega | (simp; done) | (simp; omega)) ?_ | with_reducible refine Z7x (by first | omega | (simp; done) | (simp; omega)) ?_ | fail); walk_at "ds"); walk_at "dx"))
local macro_rules | `(tactic| walk_at "dw") => `(tactic| (((first | with_reducible refine k_fo (by with_unfolding_all exact rfl) ?_ | fail); walk_at "fz"); walk_at "dw"))
local macro_rules | `(tactic| walk_at "fz") => `(tactic| repeat with_reducible refine Wg.go ?_)
local macro_rules | `(tactic| walk_at "fz") => `(tactic| repeat with_reducible refine Wg.go ?_)
local macro_rules | `(tactic| walk_at "fz") => `(tactic| repeat with_reducible refine Wg.go ?_)
def stp (R : List (List Int)) (p a : Nat) : Int := (R.getD p []).getD a (-1)
def lng (R : List (List Int)) (G : List Bool) : Nat → List Nat → Bool
 | p, [] => G.getD p false
 | p, a :: y => if 0 ≤ stp R p a then lng R G (stp R p a).toNat y else false
def inW (w : Nat) (y : List Nat) : Prop := ∀ a ∈ y, a < w
theorem getD_mem {α : Type} {l : List α} {i : Nat} (h : i < l.length) (d : α) : l.getD i d ∈ l := by
 rw [Ql, Qf h]; exact Ho h
theorem getD_some {α : Type} {l : List α} {i : Nat} {x : α} (h : l[i]? = some x) (d : α) : l.getD i d = x := by rw [Ql, h]; rfl
structure Tab (w : Nat) (R : List (List Int)) : Prop where
 ne : R ≠ []
 wid : ∀ r ∈ R, r.length = w
 ok : Z85 R.length R
theorem Tab.row {w : Nat} {R : List (List Int)} (t : Tab w R) {p : Nat} (h : p < R.length) : (R.getD p []).length = w := t.wid _ (getD_mem h _)
theorem Tab.mem {w : Nat} {R : List (List Int)} (t : Tab w R) {p a : Nat} (h : p < R.length) (ha : a < w) : stp R p a ∈ R.getD p [] := getD_mem (by rw [t.row h]; exact ha) _
theorem Tab.lt {w : Nat} {R : List (List Int)} (t : Tab w R) {p a : Nat} (h : p < R.length) (ha : a < w) : -1 ≤ stp R p a ∧ stp R p a < R.length := t.ok _ (getD_mem h _) _ (t.mem h ha)
theorem Tab.pos {w : Nat} {R : List (List Int)} (t : Tab w R) : 0 < R.length := Gf.mpr t.ne
structure Canon (w : Nat) (R : List (List Int)) (G : List Bool) : Prop where
 tab : Tab w R
 len : R.length = G.length
 use : ∀ i, i < R.length → ∃ y, inW w y ∧ lng R G i y = true
 dif : ∀ i j, i < R.length → j < R.length → (∀ y, inW w y → lng R G i y = lng R G j y) → i = j
 num : Zxc R = List.range R.length
structure Tri (w : Nat) (R : List (List Int)) (G : List Bool) (nm : List (List Nat)) (W : List Nat → Prop) : Prop where
 tab : Tab w R
 len : R.length = G.length
 nml : nm.length = R.length
 root : nm[0]? = some []
 nd : nm.Nodup
 step : ∀ p a x, nm[p]? = some x → a < w → (stp R p a < 0 ∧ x ++ [a] ∉ nm) ∨ (0 ≤ stp R p a ∧ nm[(stp R p a).toNat]? = some (x ++ [a]))
 pref : ∀ x a, x ++ [a] ∈ nm → x ∈ nm
 good : ∀ p x, nm[p]? = some x → (G.getD p false = true ↔ W x)
 wn : ∀ x, W x → x ∈ nm
theorem Tri.at {w : Nat} {R : List (List Int)} {G : List Bool} {nm : List (List Nat)} {W : List Nat → Prop} (t : Tri w R G nm W) {p : Nat} {x : List Nat} (h : nm[p]? = some x) : p < R.length := by
 rw [← t.nml]; exact (Qa.mp h).1
def ixW (ls z : List Nat) : List Nat := z.map ((45 :: ls).idxOf ·)
theorem Ydp {ls : List Nat} (nd : (45 :: ls).Nodup) {y : List Nat} (h : inW (ls.length + 1) y) : ∃ z, isW ls z = true ∧ ixW ls z = y := by
 refine ⟨y.map fun a => (45 :: ls).getD a 0, Zjo.mpr fun c hc => ?_, ?_⟩
 ·obtain ⟨a, ha, rfl⟩ := Qz.mp hc
  exact getD_mem (h a ha) 0
 ·unfold ixW
  rw [Qq]
  conv => rhs; rw [← Te y]
  refine List.map_congr_left fun a ha => ?_
  have hl := h a ha
  show (45 :: ls).idxOf ((45 :: ls).getD a 0) = a
  rw [Ql, Qf hl]
  exact nd.idxOf_getElem a hl
structure Stk (ls : List Nat) (R : List (List Int)) (G : List Bool) (W : List Nat → Prop) : Prop where
 tab : Tab (ls.length + 1) R
 len : R.length = G.length
 lang : ∀ z, isW ls z = true → (lng R G 0 (ixW ls z) = true ↔ W z)
 use : (∀ i, i < R.length → ∃ y, inW (ls.length + 1) y ∧ lng R G i y = true) ∨ (R = [List.replicate (ls.length + 1) (-1)] ∧ G = [false])
 le : R.length ≤ 100000
 can : (R = [List.replicate (ls.length + 1) (-1)] ∧ G = [false]) ∨ Canon (ls.length + 1) R G
section
variable {ls : List Nat} {R : List (List Int)} {G : List Bool} {W : List Nat → Prop}
theorem Z1p {R : List (List Int)} {G : List Bool} : ∀ (y : List Nat) (p : Nat), lng R G p y = true → G.any id = true
 | [], p, h => by
  unfold lng at h
  by_cases hp : p < G.length
  ·exact Lb.mpr ⟨_, getD_mem hp false, h⟩
  ·rw [Ql, Hm (by omega)] at h
   cases h
 | a :: y, p, h => by
  unfold lng at h
  split at h
  ·exact Z1p y _ h
  ·cases h
theorem Stk.any (s : Stk ls R G W) (nd : (45 :: ls).Nodup) : G.any id = true ↔ ∃ z, isW ls z = true ∧ W z := by
 constructor
 ·intro h
  rcases s.use with hu | ⟨_, hG⟩
  ·obtain ⟨y, hy, hy2⟩ := hu 0 s.tab.pos
   obtain ⟨y', h1, rfl⟩ := Ydp nd hy
   exact ⟨y', h1, (s.lang y' h1).mp hy2⟩
  ·rw [hG] at h; cases h
 ·rintro ⟨z, hz, hw⟩
  exact Z1p _ 0 ((s.lang z hz).mpr hw)
end
structure RdS where
 at_ : Nat
 atoms : List (List Nat)
 fol : List (List Nat)
abbrev natP (xs : List Nat) : PV := .lst (xs.map fun (n : Nat) => PV.int n)
def rdM (M0 : Mem) (al : PV) (z : List Nat) (s : RdS) : Mem := M0 ++ [some (.obj .ShapeReader [.v al, vS z, vI s.at_, .cell (M0.length + 1), .cell (M0.length + 2)]), some (.lst (s.atoms.map vS)), some (.lst (s.fol.map fun f => D.v (natP f)))]
def sgAt (z : List Nat) (i : Nat) : List Nat := match z[i]? with
 | some c => [c]
 | none => []
def Z0r (ls vw : List Nat) (y : List Nat) : Option (List Nat) :=
 if y = [67] then some (cons ls vw) else if y = [86] then some vw else if y = [76] then some ls else if y = [74] then some [45] else if y = [83] then some (45 :: ls) else
 match y with
 | [c] => if c ∈ 45 :: ls then some [c] else none
 | _ => none
def srtN (l : List Nat) : List Nat := (List.range 64).filter fun c => decide (c ∈ l)
def con1 (f : List (List Nat)) (n : Nat) (firsts : List Nat) : List (List Nat) := f.set n (srtN (f.getD n [] ++ firsts))
def conF (fol : List (List Nat)) (lasts firsts : List Nat) : List (List Nat) := lasts.foldl (fun f n => con1 f n firsts) fol
inductive Out where
 | ok (e : Bool) (f l : List Nat) (s : RdS)
 | err (p : Nat)
section
variable (ls vw z : List Nat)
def Z5u (al : Bool) (sub : RdS → Out) (s : RdS) : Out :=
 if z[s.at_]? = some 40 ∧ al = true then
  match sub { s with at_ := s.at_ + 1 } with
  | .err p => .err p
  | .ok e f l s' => if z[s'.at_]? = some 41 then .ok e f l { s' with at_ := s'.at_ + 1 } else .err s'.at_
 else match Z0r ls vw (sgAt z s.at_) with
  | none => .err s.at_
  | some t => if s.atoms.length = 10 then .err s.at_ else .ok false [s.atoms.length] [s.atoms.length] ⟨s.at_ + 1, s.atoms ++ [t], s.fol ++ [[]]⟩
def itemF (atom : RdS → Out) (s : RdS) : Out :=
 match atom s with
 | .err p => .err p
 | .ok e f l s' =>
  if z[s'.at_]? = some 63 then .ok true f l { s' with at_ := s'.at_ + 1 }
  else if z[s'.at_]? = some 42 then .ok true f l ⟨s'.at_ + 1, s'.atoms, conF s'.fol l f⟩
  else if z[s'.at_]? = some 43 then .ok e f l ⟨s'.at_ + 1, s'.atoms, conF s'.fol l f⟩
  else .ok e f l s'
def Yak (i : Nat) : Prop := z[i]? = none ∨ z[i]? = some 124 ∨ z[i]? = some 41
instance (i : Nat) : Decidable (Yak z i) := by unfold Yak; infer_instance
def Zv9 (item : RdS → Out) : Nat → Bool → List Nat → List Nat → RdS → Out
 | 0, e, f, l, s => .ok e f l s
 | n + 1, e, f, l, s => if Yak z s.at_ then .ok e f l s else
  match item s with
  | .err p => .err p
  | .ok e' f' l' s' => Zv9 item n (e && e') (if e then f ++ f' else f) (if e' then l ++ l' else l') ⟨s'.at_, s'.atoms, conF s'.fol l f'⟩
def Zwa (item : RdS → Out) (s : RdS) : Out :=
 match item s with
 | .err p => .err p
 | .ok e f l s' => Zv9 z item (z.length + 1) e f l s'
def Z0s (branch : RdS → Out) : Nat → Bool → List Nat → List Nat → RdS → Out
 | 0, e, f, l, s => .ok e f l s
 | n + 1, e, f, l, s => if z[s.at_]? = some 124 then
  match branch { s with at_ := s.at_ + 1 } with
  | .err p => .err p
  | .ok e' f' l' s' => Z0s branch n (e || e') (f ++ f') (l ++ l') s'
  else .ok e f l s
def Z6o (branch : RdS → Out) (s : RdS) : Out :=
 match branch s with
 | .err p => .err p
 | .ok e f l s' => Z0s z branch (z.length + 1) e f l s'
def Z0t : Nat → RdS → Out
 | 0 => Z6o z (Zwa z (itemF z (Z5u ls vw z false fun _ => .err 0)))
 | k + 1 => Z6o z (Zwa z (itemF z (Z5u ls vw z true (Z0t k))))
def Yei : Nat → RdS → Out
 | 0 => Z5u ls vw z false fun _ => .err 0
 | k + 1 => Z5u ls vw z true (Z0t ls vw z k)
def Z9t (k : Nat) : RdS → Out := itemF z (Yei ls vw z k)
def Z27 (k : Nat) : RdS → Out := Zwa z (Z9t ls vw z k)
end
structure RdG (z : List Nat) (s : RdS) : Prop where
 a : s.at_ ≤ z.length
 l : s.fol.length = s.atoms.length
 t : s.atoms.length ≤ 10
 w : ∀ y ∈ s.atoms, y.length ≤ 100
 f : ∀ f ∈ s.fol, f.length ≤ 20 ∧ ∀ n ∈ f, n < s.atoms.length
structure OkO (z : List Nat) (s : RdS) (f l : List Nat) (s' : RdS) : Prop where
 g : RdG z s'
 m : s.at_ < s'.at_
 d : s.atoms.length ≤ s'.atoms.length
 fl : f.length + s.atoms.length ≤ s'.atoms.length
 ll : l.length + s.atoms.length ≤ s'.atoms.length
 fm : ∀ n ∈ f, n < s'.atoms.length
 lm : ∀ n ∈ l, n < s'.atoms.length
section
variable {M0 : Mem} {al : PV} {z : List Nat} {s : RdS}
theorem rd_o : (rdM M0 al z s)[M0.length]? = some (some (.obj .ShapeReader [.v al, vS z, vI s.at_, .cell (M0.length + 1), .cell (M0.length + 2)])) := (getA rfl 0).trans rfl
theorem Yfn (n : Nat) : (rdM M0 al z s).set M0.length (some (.obj .ShapeReader [.v al, vS z, vI n, .cell (M0.length + 1), .cell (M0.length + 2)])) = rdM M0 al z ⟨n, s.atoms, s.fol⟩ := setA rfl 0 _
theorem Yfo : obOf (rdM M0 al z s) (.cell M0.length) = some (.ShapeReader, [.v al, vS z, vI s.at_, .cell (M0.length + 1), .cell (M0.length + 2)]) := by
 unfold obOf
 dsimp only
 rw [rd_o]
theorem k_rd {f : Fd} {y : D} {p : D → Prop} (e2 : [D.v al, vS z, vI s.at_, .cell (M0.length + 1), .cell (M0.length + 2)][Cn.ShapeReader.ix f]? = some y) (h : p y) : ∃ k ys y, obOf (rdM M0 al z s) (.cell M0.length) = some (k, ys) ∧ ys[k.ix f]? = some y ∧ p y := ⟨_, _, _, Yfo, e2, h⟩
theorem Z64 {ds : DSt} {E : Zfi} (e : ds[0]? = some (some (.cell M0.length))) (h : E.nx ds (rdM M0 al z ⟨s.at_ + 1, s.atoms, s.fol⟩)) : Yd6 (dVar 0) (dC (.int 1)) .at_ E ds (rdM M0 al z s) := by
 refine Ycv (Ztt e ⟨_, _, _, s.at_, rfl, rd_o, rfl, k_c ⟨1, rfl, rd_o, ?_⟩⟩)
 have : (rdM M0 al z s).set M0.length (some (.obj .ShapeReader ([D.v al, vS z, vI s.at_, .cell (M0.length + 1), .cell (M0.length + 2)].set (Cn.ShapeReader.ix .at_) (vI ((s.at_ : Int) + 1))))) = rdM M0 al z ⟨s.at_ + 1, s.atoms, s.fol⟩ := Yfn (s.at_ + 1)
 rw [this]
 exact h
end
abbrev nI (k : List Nat) : List Int := k.map fun (n : Nat) => (n : Int)
def Yfv (f : List Nat) (fol : List (List Nat)) (o : List Int) : List Nat := o.flatMap fun n => if n < 0 then f else fol.getD n.toNat []
def rchK (atoms fol : List (List Nat)) (f : List Nat) (o : List Int) (c : Nat) : List Nat := srtN ((Yfv f fol o).filter fun n => decide (c ∈ atoms.getD n []))
def StOk (O : List (List Int)) (k : List Nat) (st : Int) : Prop := (k = [] ∧ st = -1) ∨ (k ≠ [] ∧ ∃ j : Nat, st = j ∧ O[j]? = some (nI k))
def Z3r (n : Nat) (o : List Int) : Prop := o = [-1] ∨ ∃ k : List Nat, k ≠ [] ∧ o = nI k ∧ k.Pairwise (· < ·) ∧ ∀ m ∈ k, m < n
def Z3l (ls : List Nat) (s : RdS) (f : List Nat) (O : List (List Int)) (o r : List Int) : Prop := r.length = ls.length + 1 ∧ ∀ (a c : Nat), (45 :: ls)[a]? = some c → ∃ st, r[a]? = some st ∧ StOk O (rchK s.atoms s.fol f o c) st
def gdK (e : Bool) (l : List Nat) (o : List Int) : Bool := if o = [-1] then e else o.any fun n => decide (n ∈ nI l)
structure SubI (ls : List Nat) (s : RdS) (e : Bool) (f l : List Nat) (O R : List (List Int)) (G : List Bool) : Prop where
 hd : O[0]? = some [-1]
 nd : O.Nodup
 lg : G.length = R.length
 le : R.length ≤ O.length
 key : ∀ o ∈ O, Z3r s.atoms.length o
 row : ∀ (i : Nat) (o r : List Int), O[i]? = some o → R[i]? = some r → Z3l ls s f O o r
 good : ∀ (i : Nat) (o : List Int) (g : Bool), O[i]? = some o → G[i]? = some g → g = gdK e l o
theorem StOk.mono {O O' : List (List Int)} (p : O <+: O') {k : List Nat} {st : Int} (h : StOk O k st) : StOk O' k st := h.imp id fun ⟨h1, j, h2, h3⟩ => ⟨h1, j, h2, Zha p h3⟩
theorem Z3l.mono {ls : List Nat} {s : RdS} {f : List Nat} {O O' : List (List Int)} (p : O <+: O') {o r : List Int} (h : Z3l ls s f O o r) : Z3l ls s f O' o r := ⟨h.1, fun a c e => let ⟨st, h1, h2⟩ := h.2 a c e; ⟨st, h1, h2.mono p⟩⟩
local macro_rules | `(tactic| walk_at "fz") => `(tactic| repeat with_reducible refine Wg.go ?_)
theorem SubI.tab {ls : List Nat} {s : RdS} {e : Bool} {f l : List Nat} {O R : List (List Int)} {G : List Bool} (h : SubI ls s e f l O R G) (hl : R.length = O.length) : Tab (ls.length + 1) R := by
 have row : ∀ r ∈ R, ∃ o, Z3l ls s f O o r := fun r hr => by
  obtain ⟨i, hi, e⟩ := Lg.mp hr
  have hi' : i < O.length := hl ▸ hi
  exact ⟨O[i], h.row i _ _ (Qf hi') (by rw [Qf hi, e])⟩
 refine ⟨?_, ?_, ?_⟩
 ·intro e
  have h0 := h.hd
  rw [e] at hl
  have : O = [] := Gg.mp hl.symm
  rw [this] at h0
  cases h0
 ·intro r hr
  obtain ⟨o, ho⟩ := row r hr
  exact ho.1
 ·intro r hr st hst
  obtain ⟨o, h1, h2⟩ := row r hr
  obtain ⟨a, ha, e⟩ := Lg.mp hst
  have ha' : a < (45 :: ls).length := by rw [Qe]; omega
  obtain ⟨st', h3, h4⟩ := h2 a _ (Qf ha')
  rw [Qf ha, e] at h3
  cases h3
  rcases h4 with ⟨_, rfl⟩ | ⟨_, j, rfl, hj⟩
  ·omega
  ·have := (Qa.mp hj).1
   omega
abbrev tupI (o : List Int) : PV := .tup (o.map PV.int)
section
variable {S : Sc} {w : World}
def Yet : DR2 := fun x y M Q => ∃ ys zs, lsOf M x = some ys ∧ lsOf M y = some zs ∧ ys.length + zs.length ≤ sizeLine ∧ Q (.cell M.length) (M ++ [some (.lst (ys ++ zs))])
theorem Z8i : SimO S zAdd Yet := fun c M x y dx dy Q Qd ok rx ry ⟨ys, zs, e1, e2, hl, q⟩ po => by
 obtain ⟨a, vs, rfl, h1, r1⟩ := Zvo ok rx e1
 obtain ⟨b, us, rfl, h2, r2⟩ := Zvo ok ry e2
 exact ⟨vs, us, h1, h2, by rw [← r1.len, ← r2.len]; exact hl, fun p hp => Zqv ok po hp (r1.append r2) q⟩
end
abbrev Z3d (ls : List Nat) : List Nat := [67, 86, 76, 74, 83, 45] ++ ls
section
variable {ls vw z : List Nat}
theorem Z8n {c : Nat} : (Z0r ls vw [c]).isSome = true ↔ c ∈ Z3d ls := by
 unfold Z0r
 simp only [L9, and_true]
 split
 ·rename_i h; simp [h]
 split
 ·rename_i h; simp [h]
 split
 ·rename_i h; simp [h]
 split
 ·rename_i h; simp [h]
 split
 ·rename_i h; simp [h]
 split
 ·rename_i h; simp only [Option.isSome_some, true_iff]; rcases Qg.mp h with h | h
  ·simp [h]
  ·simp [h]
 ·rename_i h1 h2 h3 h4 h5 h
  simp only [Qg, not_or] at h
  simp [h1, h2, h3, h4, h5, h.1, h.2]
def LsOk (ls : List Nat) : Prop := ∀ c ∈ ls, 97 ≤ c ∧ c ≤ 122
end
structure It where
 grp : Bool
 brs : List (List Nat)
 mark : List Nat
def It.pv (t : It) : PV := .tup [.bl t.grp, .lst (t.brs.map PV.str), .str t.mark]
abbrev itsP (ts : List It) : PV := .lst (ts.map It.pv)
structure OkIt (ls : List Nat) (t : It) : Prop where
 mrk : t.mark ∈ ([[], [63], [42], [43]] : List (List Nat))
 ne : t.brs ≠ []
 two : t.brs.length ≤ 2
 br : ∀ b ∈ t.brs, b ≠ [] ∧ b.length ≤ 2 ∧ ∀ c ∈ b, c ∈ Z3d ls
 one : t.grp = false → ∃ c, t.brs = [[c]]
structure Yen (ls : List Nat) (n g : Nat) (ts : List It) : Prop where
 ne : ts ≠ []
 le : ts.length ≤ n
 it : ∀ t ∈ ts, OkIt ls t
 gr : ∀ (k : Nat) (t : It), ts[k]? = some t → g ≤ k → t.grp = false
def sgsA (ls vw : List Nat) (c : Nat) : List Nat := (Z0r ls vw [c]).getD []
abbrev Cu := Nat × Nat × Nat
abbrev cuI (x : Cu) : List Int := [(x.1 : Int), (x.2.1 : Int), (x.2.2 : Int)]
abbrev cuP (x : Cu) : PV := tupI (cuI x)
def hops (t : It) : Bool := decide (t.mark ∈ ([[63], [42]] : List (List Nat)))
def loops (t : It) : Bool := decide (t.mark ∈ ([[42], [43]] : List (List Nat)))
def brC (k : Nat) (t : It) : List Cu := (List.range t.brs.length).map fun b => (k, b, 0)
def befL : List It → Nat → List Cu
 | [], k => [(k, 0, 0)]
 | t :: r, k => brC k t ++ if hops t = true then befL r (k + 1) else []
def bef (ts : List It) (k : Nat) : List Cu := befL (ts.drop k) k
def Z33 (ls vw : List Nat) (ts : List It) (c : Nat) (x : Cu) : List Cu := match ts[x.1]? with
 | none => []
 | some t => let br := t.brs.getD x.2.1 []
  if c ∈ sgsA ls vw (br.getD x.2.2 0) then
   if x.2.2 + 1 < br.length then [(x.1, x.2.1, x.2.2 + 1)] else bef ts (x.1 + 1) ++ if loops t = true then brC x.1 t else []
  else []
def Z56 (ls vw : List Nat) (ts : List It) (cs : List Cu) (c : Nat) : List Cu := cs.flatMap (Z33 ls vw ts c)
def CuOk (ts : List It) (x : Cu) : Prop := (x = (ts.length, 0, 0)) ∨ ∃ t, ts[x.1]? = some t ∧ ∃ br, t.brs[x.2.1]? = some br ∧ x.2.2 < br.length
def gaP (atoms fol : List (List Nat)) (l : List Nat) : Nat → List Nat → Prop
 | n, [] => n ∈ l
 | n, c :: z => ∃ m ∈ fol.getD n [], c ∈ atoms.getD m [] ∧ gaP atoms fol l m z
def gluP (atoms fol : List (List Nat)) (e : Bool) (f l : List Nat) : List Nat → Prop
 | [] => e = true
 | c :: z => ∃ m ∈ f, c ∈ atoms.getD m [] ∧ gaP atoms fol l m z
abbrev Wd := List Nat → Prop
def catW (A B : Wd) : Wd := fun w => ∃ u v, w = u ++ v ∧ A u ∧ B v
def altW (A B : Wd) : Wd := fun w => A w ∨ B w
def optW (A : Wd) : Wd := fun w => w = [] ∨ A w
inductive Zok (A : Wd) : Wd
 | one {w : List Nat} : A w → Zok A w
 | more {u v : List Nat} : A u → Zok A v → Zok A (u ++ v)
inductive Kd4 where
 | atom | item | branch | shape
inductive PT (ls vw : List Nat) : Kd4 → Nat → List Nat → Nat → Wd → Prop
 | sign {k c : Nat} {t : List Nat} : Z0r ls vw [c] = some t → PT ls vw .atom k [c] 1 (fun w => ∃ d ∈ t, w = [d])
 | group {k n : Nat} {z : List Nat} {L : Wd} : PT ls vw .shape k z n L → PT ls vw .atom (k + 1) (40 :: (z ++ [41])) n L
 | bare {k n : Nat} {z : List Nat} {L : Wd} : PT ls vw .atom k z n L → PT ls vw .item k z n L
 | opt {k n : Nat} {z : List Nat} {L : Wd} : PT ls vw .atom k z n L → PT ls vw .item k (z ++ [63]) n (optW L)
 | star {k n : Nat} {z : List Nat} {L : Wd} : PT ls vw .atom k z n L → PT ls vw .item k (z ++ [42]) n (optW (Zok L))
 | plus {k n : Nat} {z : List Nat} {L : Wd} : PT ls vw .atom k z n L → PT ls vw .item k (z ++ [43]) n (Zok L)
 | one {k n : Nat} {z : List Nat} {L : Wd} : PT ls vw .item k z n L → PT ls vw .branch k z n L
 | cat {k n n' : Nat} {z z' : List Nat} {L L' : Wd} : PT ls vw .branch k z n L → PT ls vw .item k z' n' L' → PT ls vw .branch k (z ++ z') (n + n') (catW L L')
 | br {k n : Nat} {z : List Nat} {L : Wd} : PT ls vw .branch k z n L → PT ls vw .shape k z n L
 | alt {k n n' : Nat} {z z' : List Nat} {L L' : Wd} : PT ls vw .shape k z n L → PT ls vw .branch k z' n' L' → PT ls vw .shape k (z ++ 124 :: z') (n + n') (altW L L')
section
variable {ls vw : List Nat}
theorem PT.head {κ : Kd4} {k n : Nat} {z : List Nat} {L : Wd} (h : PT ls vw κ k z n L) : ∃ c r, z = c :: r ∧ (c = 40 ∨ c ∈ Z3d ls) := by
 induction h with
 | sign h => exact ⟨_, _, rfl, Or.inr (Z8n.mp (by rw [h]; rfl))⟩
 | group _ _ => exact ⟨_, _, rfl, Or.inl rfl⟩
 | bare _ ih | one _ ih | br _ ih => exact ih
 | opt _ ih | star _ ih | plus _ ih | cat _ _ ih _ | alt _ _ ih _ => obtain ⟨c, r, rfl, h⟩ := ih; exact ⟨c, _, rfl, h⟩
structure Gl (s s' : RdS) (e : Bool) (f l : List Nat) (L : Wd) : Prop where
 pa : s.atoms <+: s'.atoms
 old : ∀ i, i < s.atoms.length → s'.fol.getD i [] = s.fol.getD i []
 cl : ∀ i, s.atoms.length ≤ i → ∀ m ∈ s'.fol.getD i [], s.atoms.length ≤ m
 fr : ∀ m ∈ f, s.atoms.length ≤ m
 lr : ∀ m ∈ l, s.atoms.length ≤ m
 lang : ∀ w, gluP s'.atoms s'.fol e f l w ↔ L w
def Z7s (rest : List Nat) : Prop := ∀ c ∈ ([63, 42, 43] : List Nat), rest[0]? ≠ some c
def Ends (rest : List Nat) : Prop := rest[0]? = none ∨ rest[0]? = some 124 ∨ rest[0]? = some 41
def Takes (ls vw : List Nat) : Kd4 → Nat → List Nat → Nat → Wd → Prop
 | .atom, k, z, n, L => ∀ (src rest : List Nat) (s : RdS), RdG src s → src.drop s.at_ = z ++ rest → s.atoms.length + n ≤ 10 → ∃ e f l s', Yei ls vw src k s = .ok e f l s' ∧ s'.at_ = s.at_ + z.length ∧ s'.atoms.length = s.atoms.length + n ∧ Gl s s' e f l L
 | .item, k, z, n, L => ∀ (src rest : List Nat) (s : RdS), RdG src s → src.drop s.at_ = z ++ rest → s.atoms.length + n ≤ 10 → Z7s rest → ∃ e f l s', Z9t ls vw src k s = .ok e f l s' ∧ s'.at_ = s.at_ + z.length ∧ s'.atoms.length = s.atoms.length + n ∧ Gl s s' e f l L
 | .branch, k, z, n, L => ∀ (src rest : List Nat) (s : RdS), RdG src s → src.drop s.at_ = z ++ rest → s.atoms.length + n ≤ 10 → Z7s rest → ∃ m e f l s', Z27 ls vw src k s = Zv9 src (Z9t ls vw src k) m e f l s' ∧ src.length < m + s'.at_ ∧ OkO src s f l s' ∧ s'.at_ = s.at_ + z.length ∧ s'.atoms.length = s.atoms.length + n ∧ Gl s s' e f l L
 | .shape, k, z, n, L => ∀ (src rest : List Nat) (s : RdS), RdG src s → src.drop s.at_ = z ++ rest → s.atoms.length + n ≤ 10 → Ends rest → ∃ m e f l s', Z0t ls vw src k s = Z0s src (Z27 ls vw src k) m e f l s' ∧ src.length < m + s'.at_ ∧ OkO src s f l s' ∧ s'.at_ = s.at_ + z.length ∧ s'.atoms.length = s.atoms.length + n ∧ Gl s s' e f l L
theorem RdG.mem {src : List Nat} {s : RdS} (g : RdG src s) {i m : Nat} (h : m ∈ s.fol.getD i []) : m < s.atoms.length := by
 rw [Ql] at h
 cases e : s.fol[i]? with
 | none => rw [e] at h; simp at h
 | some y => rw [e] at h; exact (g.f y (Qp e)).2 m h
end
theorem Stk.mono {ls : List Nat} {R : List (List Int)} {G : List Bool} {A B : List Nat → Prop} (s : Stk ls R G A) (h : ∀ w, A w ↔ B w) : Stk ls R G B := ⟨s.tab, s.len, fun z hz => (s.lang z hz).trans (h z), s.use, s.le, s.can⟩
theorem Zze {A B : Wd} (h : ∀ w, A w ↔ B w) : A = B := funext fun w => propext (h w)
theorem Zjw (A B C : Wd) : catW (catW A B) C = catW A (catW B C) := Zze fun w => by
 constructor
 ·rintro ⟨u, v, rfl, ⟨u1, u2, rfl, h1, h2⟩, h3⟩
  exact ⟨u1, u2 ++ v, Q6 .., h1, u2, v, rfl, h2, h3⟩
 ·rintro ⟨u, v, rfl, h1, v1, v2, rfl, h2, h3⟩
  exact ⟨u ++ v1, v2, (Q6 ..).symm, ⟨u, v1, rfl, h1, h2⟩, h3⟩
abbrev nilW : Wd := fun w => w = []
theorem Zx7 (A : Wd) : catW A nilW = A := Zze fun w => by
 constructor
 ·rintro ⟨u, v, rfl, h1, h2⟩
  rw [show v = [] from h2, Qx]; exact h1
 ·intro h
  exact ⟨w, [], (Qx w).symm, h, rfl⟩
def sgW (ls vw : List Nat) (c : Nat) : Wd := fun w => ∃ d ∈ sgsA ls vw c, w = [d]
def seqW (ls vw : List Nat) : List Nat → Wd
 | [] => nilW
 | c :: b => catW (sgW ls vw c) (seqW ls vw b)
def Zwd (ls vw : List Nat) : List (List Nat) → Wd
 | [] => fun _ => False
 | b :: bs => altW (seqW ls vw b) (Zwd ls vw bs)
def Yck (m : List Nat) (A : Wd) : Wd := if m = [63] then optW A else if m = [42] then optW (Zok A) else if m = [43] then Zok A else A
def itW (ls vw : List Nat) (t : It) : Wd := Yck t.mark (Zwd ls vw t.brs)
def itsW (ls vw : List Nat) : List It → Wd
 | [] => nilW
 | t :: ts => catW (itW ls vw t) (itsW ls vw ts)
theorem Zmh (A : Wd) : Zok A = catW A (optW (Zok A)) := Zze fun w => by
 constructor
 ·intro p
  cases p with
  | one h => exact ⟨w, [], (Qx w).symm, h, Or.inl rfl⟩
  | @more u v h p => exact ⟨u, v, rfl, h, Or.inr p⟩
 ·rintro ⟨u, v, rfl, h, h2⟩
  rcases h2 with h2 | h2
  ·rw [show v = [] from h2, Qx]; exact .one h
  ·exact .more h h2
def Z4s (ls vw : List Nat) (t : It) : Wd := if loops t = true then optW (Zok (Zwd ls vw t.brs)) else nilW
def aftW (ls vw : List Nat) (ts : List It) (k : Nat) (t : It) : Wd := catW (Z4s ls vw t) (itsW ls vw (ts.drop (k + 1)))
def cuW (ls vw : List Nat) (ts : List It) (x : Cu) : Wd := match ts[x.1]? with
 | none => nilW
 | some t => catW (seqW ls vw ((t.brs.getD x.2.1 []).drop x.2.2)) (aftW ls vw ts x.1 t)
theorem Z2a {ls vw : List Nat} {t : It} (hm : t.mark ∈ ([[], [63], [42], [43]] : List (List Nat))) (w : List Nat) : itW ls vw t w ↔ catW (Zwd ls vw t.brs) (Z4s ls vw t) w ∨ (hops t = true ∧ w = []) := by
 unfold itW Z4s Yck hops loops
 simp at hm
 rcases hm with h | h | h | h <;> rw [h]
 ·simp [Zx7]
 ·simp [Zx7, optW, or_comm]
 ·simp [← Zmh, optW, or_comm]
 ·simp [← Zmh]
section
variable {ls vw : List Nat} {ts : List It}
theorem Zr2 {w : List Nat} : ∀ {bs : List (List Nat)}, Zwd ls vw bs w ↔ ∃ (b : Nat) (br : List Nat), bs[b]? = some br ∧ seqW ls vw br w
 | [] => ⟨fun h => h.elim, fun ⟨b, br, h, _⟩ => by simp at h⟩
 | a :: bs => by
  show seqW ls vw a w ∨ Zwd ls vw bs w ↔ _
  rw [Zr2 (bs := bs)]
  constructor
  ·rintro (h | ⟨b, br, h1, h2⟩)
   ·exact ⟨0, a, rfl, h⟩
   ·exact ⟨b + 1, br, h1, h2⟩
  ·rintro ⟨b, br, h1, h2⟩
   cases b with
   | zero => cases h1; exact Or.inl h2
   | succ b => exact Or.inr ⟨b, br, h1, h2⟩
theorem Zuj {k : Nat} {t : It} (ht : ts[k]? = some t) (w : List Nat) : (∃ x ∈ brC k t, cuW ls vw ts x w) ↔ catW (Zwd ls vw t.brs) (aftW ls vw ts k t) w := by
 have e : ∀ b, cuW ls vw ts (k, b, 0) = catW (seqW ls vw (t.brs.getD b [])) (aftW ls vw ts k t) := fun b => by
  unfold cuW
  dsimp only
  rw [ht]
  rfl
 unfold brC
 constructor
 ·rintro ⟨x, hx, h⟩
  obtain ⟨b, hb, rfl⟩ := Qz.mp hx
  rw [e] at h
  obtain ⟨u, v, rfl, h1, h2⟩ := h
  refine ⟨u, v, rfl, Zr2.mpr ⟨b, t.brs.getD b [], ?_, h1⟩, h2⟩
  rw [Ql, Qf (H6.mp hb)]
  rfl
 ·rintro ⟨u, v, rfl, h1, h2⟩
  obtain ⟨b, br, h3, h4⟩ := Zr2.mp h1
  refine ⟨(k, b, 0), Qz.mpr ⟨b, H6.mpr (Qa.mp h3).1, rfl⟩, ?_⟩
  rw [e, Ql, h3]
  exact ⟨u, v, rfl, h4, h2⟩
theorem Ydq {k : Nat} {t : It} (ht : ts[k]? = some t) : itsW ls vw (ts.drop k) = catW (itW ls vw t) (itsW ls vw (ts.drop (k + 1))) := by
 have hk := Qa.mp ht
 rw [Qw hk.1, hk.2]
 rfl
theorem Znl (ok : ∀ t ∈ ts, OkIt ls t) : ∀ (n k : Nat), k + n = ts.length → ∀ w, (∃ x ∈ bef ts k, cuW ls vw ts x w) ↔ itsW ls vw (ts.drop k) w
 | 0, k, e, w => by
  have hd : ts.drop k = [] := Gk (by omega)
  unfold bef
  rw [hd]
  show (∃ x ∈ [(k, 0, 0)], _) ↔ w = []
  have : cuW ls vw ts (k, 0, 0) = nilW := by unfold cuW; dsimp only; rw [Hm (by omega)]
  simp [this]
 | n + 1, k, e, w => by
  have ht := Qf (show k < ts.length by omega)
  have ih := Znl ok n (k + 1) (by omega) w
  rw [Ydq ht]
  unfold bef at ih ⊢
  rw [show befL (ts.drop k) k = brC k ts[k] ++ (if hops ts[k] = true then befL (ts.drop (k + 1)) (k + 1) else []) by rw [Qw (show k < ts.length by omega)]; rfl]
  have split_ : (∃ x ∈ brC k ts[k] ++ (if hops ts[k] = true then befL (ts.drop (k + 1)) (k + 1) else []), cuW ls vw ts x w) ↔ (∃ x ∈ brC k ts[k], cuW ls vw ts x w) ∨ (hops ts[k] = true ∧ itsW ls vw (ts.drop (k + 1)) w) := by
   rw [← ih]
   by_cases h : hops ts[k] = true
   ·rw [if_pos h]
    simp [h, Q1, or_and_right, exists_or]
   ·rw [if_neg h]
    simp [h]
  rw [split_, Zuj ht]
  unfold aftW
  rw [← Zjw]
  constructor
  ·rintro (⟨u, v, rfl, h1, h2⟩ | ⟨h, h2⟩)
   ·exact ⟨u, v, rfl, (Z2a (ok _ (Ho _)).mrk u).mpr (Or.inl h1), h2⟩
   ·exact ⟨[], w, rfl, (Z2a (ok _ (Ho _)).mrk []).mpr (Or.inr ⟨h, rfl⟩), h2⟩
  ·rintro ⟨u, v, rfl, h1, h2⟩
   rcases (Z2a (ok _ (Ho _)).mrk u).mp h1 with h | ⟨h, rfl⟩
   ·exact Or.inl ⟨u, v, rfl, h, h2⟩
   ·exact Or.inr ⟨h, h2⟩
theorem Z3h (ok : ∀ t ∈ ts, OkIt ls t) {k : Nat} {t : It} (ht : ts[k]? = some t) (w : List Nat) : aftW ls vw ts k t w ↔ ∃ x ∈ bef ts (k + 1) ++ (if loops t = true then brC k t else []), cuW ls vw ts x w := by
 have hk := (Qa.mp ht).1
 have ih := Znl (vw := vw) ok (ts.length - (k + 1)) (k + 1) (by omega) w
 have bc := Zuj (ls := ls) (vw := vw) ht w
 unfold aftW Z4s at bc ⊢
 by_cases h : loops t = true
 ·rw [if_pos h] at bc ⊢
  rw [if_pos h]
  rw [← Zjw, ← Zmh] at bc
  have e : (∃ x ∈ bef ts (k + 1) ++ brC k t, cuW ls vw ts x w) ↔ (∃ x ∈ bef ts (k + 1), cuW ls vw ts x w) ∨ ∃ x ∈ brC k t, cuW ls vw ts x w := by simp [Q1, or_and_right, exists_or]
  rw [e, ih, bc]
  constructor
  ·rintro ⟨u, v, rfl, h1 | h1, h2⟩
   ·subst h1; exact Or.inl h2
   ·exact Or.inr ⟨u, v, rfl, h1, h2⟩
  ·rintro (h1 | ⟨u, v, rfl, h1, h2⟩)
   ·exact ⟨[], w, rfl, Or.inl rfl, h1⟩
   ·exact ⟨u, v, rfl, Or.inr h1, h2⟩
 ·rw [if_neg h, if_neg h, Qx, ih]
  constructor
  ·rintro ⟨u, v, rfl, h1, h2⟩
   rw [show u = [] from h1]; exact h2
  ·intro h1
   exact ⟨[], w, rfl, rfl, h1⟩
theorem Zou (ok : ∀ t ∈ ts, OkIt ls t) {x : Cu} (h : CuOk ts x) (c : Nat) (z : List Nat) : cuW ls vw ts x (c :: z) ↔ ∃ y ∈ Z33 ls vw ts c x, cuW ls vw ts y z := by
 rcases h with rfl | ⟨t, ht, br, hb, ha⟩
 ·unfold cuW Z33
  dsimp only
  rw [Hm (Qu _)]
  exact ⟨fun h => (by cases h), fun ⟨y, hy, _⟩ => (by cases hy)⟩
 ·obtain ⟨k, b, a⟩ := x
  have hbr : t.brs.getD b [] = br := by rw [Ql, hb]; rfl
  have hg : br.getD a 0 = br[a] := by rw [Ql, Qf ha]; rfl
  have e1 : cuW ls vw ts (k, b, a) = catW (sgW ls vw br[a]) (catW (seqW ls vw (br.drop (a + 1))) (aftW ls vw ts k t)) := by
   unfold cuW
   dsimp only
   rw [ht]
   dsimp only
   rw [hbr, Qw ha, ← Zjw]
   rfl
  have e2 : ∀ w, catW (sgW ls vw br[a]) w (c :: z) ↔ c ∈ sgsA ls vw br[a] ∧ w z := fun w => by
   constructor
   ·rintro ⟨u, v, e, ⟨d, hd, rfl⟩, h2⟩
    cases e
    exact ⟨hd, h2⟩
   ·rintro ⟨h1, h2⟩
    exact ⟨[c], z, rfl, ⟨c, h1, rfl⟩, h2⟩
  rw [e1, e2]
  unfold Z33
  dsimp only
  rw [ht]
  dsimp only
  rw [hbr, hg]
  by_cases hc : c ∈ sgsA ls vw br[a]
  ·rw [if_pos hc]
   by_cases hl : a + 1 < br.length
   ·rw [if_pos hl]
    have e3 : cuW ls vw ts (k, b, a + 1) = catW (seqW ls vw (br.drop (a + 1))) (aftW ls vw ts k t) := by
     unfold cuW
     dsimp only
     rw [ht]
     dsimp only
     rw [hbr]
    simp [hc, e3]
   ·rw [if_neg hl, ← Z3h ok ht, Gk (by omega)]
    have e4 : catW (seqW ls vw []) (aftW ls vw ts k t) z ↔ aftW ls vw ts k t z := ⟨fun ⟨u, v, e, h1, h2⟩ => by rw [e, show u = [] from h1]; exact h2, fun h => ⟨[], z, rfl, rfl, h⟩⟩
    rw [e4]
    exact ⟨fun h => h.2, fun h => ⟨hc, h⟩⟩
  ·rw [if_neg hc]
   exact ⟨fun h => absurd h.1 hc, fun ⟨y, hy, _⟩ => (by cases hy)⟩
end
structure CurI (ls vw : List Nat) (ts : List It) (cs : List Cu) (z : List Nat) : Prop where
 nd : cs.Nodup
 ok : ∀ x ∈ cs, CuOk ts x
 w : ∀ w, (∃ x ∈ cs, cuW ls vw ts x w) ↔ itsW ls vw ts (z ++ w)
theorem CurI.step {ls vw : List Nat} {ts : List It} {cs cs' : List Cu} {z : List Nat} (I : CurI ls vw ts cs z) (it : ∀ t ∈ ts, OkIt ls t) {c : Nat} (nd : cs'.Nodup) (hok : ∀ x ∈ cs', CuOk ts x) (h : ∀ x, x ∈ cs' ↔ x ∈ Z56 ls vw ts cs c) : CurI ls vw ts cs' (z ++ [c]) := by
 refine ⟨nd, hok, fun w => ?_⟩
 ·rw [Q6, ← I.w]
  constructor
  ·rintro ⟨x, hx, hw⟩
   obtain ⟨y, hy, hx⟩ := H7.mp ((h x).mp hx)
   exact ⟨y, hy, (Zou it (I.ok y hy) c w).mpr ⟨x, hx, hw⟩⟩
  ·rintro ⟨y, hy, hw⟩
   obtain ⟨x, hx, hw⟩ := (Zou it (I.ok y hy) c w).mp hw
   exact ⟨x, (h x).mpr (H7.mpr ⟨y, hy, hx⟩), hw⟩
local macro_rules | `(tactic| walk_at "fz") => `(tactic| repeat with_reducible refine Wg.go ?_)
local macro_rules | `(tactic| walk_at "dw") => `(tactic| (((first | with_reducible refine Z10 (by decide) ?_ | with_reducible refine Z1y (by decide) ?_ | fail); walk_at "fz"); walk_at "dw"))
local macro_rules | `(tactic| walk_at "dw") => `(tactic| (((first | with_reducible refine k_rd (by with_unfolding_all exact rfl) ?_ | with_reducible refine Z64 (by with_unfolding_all exact rfl) ?_ | fail); walk_at "fz"); walk_at "dw"))
local macro_rules | `(tactic| walk_at "fz") => `(tactic| repeat with_reducible refine Wg.go ?_)
theorem Yap {b : Nat} {k : List Nat} (hp : k.Pairwise (· < ·)) (h : ∀ m ∈ k, m < b) : k.length ≤ b := by
 have : k.length ≤ (List.range b).length := Zh2 (hp.imp fun {a b} h => Gy h) fun m hm => H6.mpr (h m hm)
 rwa [Hc] at this
theorem Z3r.len {n : Nat} (hn : n ≤ 10) {o : List Int} (h : Z3r n o) : o.length ≤ 10 := by
 rcases h with rfl | ⟨k, _, rfl, hp, hk⟩
 ·decide
 ·have := Yap hp hk
  rw [Qb]
  omega
theorem Z3r.at {n : Nat} {o : List Int} (h : Z3r n o) {x : Int} (hx : x ∈ o) : x < 0 ∨ ∃ m : Nat, x = m ∧ m < n := by
 rcases h with rfl | ⟨k, _, rfl, hp, hk⟩
 ·rw [Qj] at hx
  omega
 ·obtain ⟨m, hm, rfl⟩ := Qz.mp hx
  exact Or.inr ⟨m, rfl, hk m hm⟩
local macro_rules | `(tactic| walk_at "fz") => `(tactic| repeat with_reducible refine Wg.go ?_)
theorem OkIt.len {ls : List Nat} {t : It} (ok : OkIt ls t) : (glue [124] t.brs).length ≤ 6 ∧ t.mark.length ≤ 1 ∧ (t.brs.map List.length).sum ≤ 4 ∧ (t.brs.headD []).length ≤ 2 := by
 have hm : t.mark.length ≤ 1 := by
  have := ok.mrk
  simp at this
  rcases this with h | h | h | h <;> rw [h] <;> decide
 have h2 := ok.two
 have hb := ok.br
 match hbr : t.brs with
 | [] => exact absurd hbr ok.ne
 | [a] =>
  have := (hb a (by rw [hbr]; simp)).2.1
  exact ⟨by simp [glue]; omega, hm, by simp; omega, by simpa using this⟩
 | [a, b] =>
  have h1 := (hb a (by rw [hbr]; simp)).2.1
  have h2 := (hb b (by rw [hbr]; simp)).2.1
  exact ⟨by simp [glue]; omega, hm, by simp; omega, by simpa using h1⟩
 | a :: b :: c :: r => rw [hbr] at h2; simp at h2
theorem Yan {ts : List It} {k : Nat} {t : It} (h : ts[k]? = some t) : befL (ts.drop k) k = brC k t ++ if hops t = true then befL (ts.drop (k + 1)) (k + 1) else [] := by
 have hk := Qa.mp h
 rw [Qw hk.1, hk.2]
 rfl
def allI (k : Nat) (t : It) : List Cu := (List.range t.brs.length).flatMap fun b => (List.range (t.brs.getD b []).length).map fun a => (k, b, a)
def allL : List It → Nat → List Cu
 | [], k => [(k, 0, 0)]
 | t :: r, k => allI k t ++ allL r (k + 1)
theorem Z5x {k : Nat} {t : It} {b a : Nat} {br : List Nat} (h : t.brs[b]? = some br) (ha : a < br.length) : (k, b, a) ∈ allI k t := by
 refine H7.mpr ⟨b, H6.mpr (Qa.mp h).1, Qz.mpr ⟨a, H6.mpr ?_, rfl⟩⟩
 rw [Ql, h]
 exact ha
theorem Zx9 : ∀ {ts : List It} {k : Nat} {t : It} {i b a : Nat} {br : List Nat}, ts[i]? = some t → t.brs[b]? = some br → a < br.length → (k + i, b, a) ∈ allL ts k
 | [], k, t, i, b, a, br, h, _, _ => by simp at h
 | t' :: r, k, t, 0, b, a, br, h, h1, h2 => by
  cases h
  exact Lm _ (Z5x h1 h2)
 | t' :: r, k, t, i + 1, b, a, br, h, h1, h2 => by
  have := Zx9 (k := k + 1) (ts := r) (i := i) h h1 h2
  rw [show k + (i + 1) = k + 1 + i by omega]
  exact Le _ this
theorem Zya : ∀ {ts : List It} {k : Nat}, (k + ts.length, 0, 0) ∈ allL ts k
 | [], k => Qo
 | t :: r, k => by
  have := Zya (ts := r) (k := k + 1)
  rw [Qe, show k + (r.length + 1) = k + 1 + r.length by omega]
  exact Le _ this
theorem CuOk.all {ts : List It} {x : Cu} (h : CuOk ts x) : x ∈ allL ts 0 := by
 rcases h with rfl | ⟨t, ht, br, hb, ha⟩
 ·have := Zya (ts := ts) (k := 0)
  rwa [L5] at this
 ·have := Zx9 (k := 0) ht hb ha
  rwa [L5] at this
def CuB (x : Cu) : Prop := x.1 < 64 ∧ x.2.1 < 64 ∧ x.2.2 < 64
theorem CuOk.b {ls : List Nat} {n g : Nat} {ts : List It} (ok : Yen ls n g ts) (h4 : n ≤ 4) {x : Cu} (h : CuOk ts x) : CuB x := by
 have := ok.le
 rcases h with rfl | ⟨t, ht, br, hb, ha⟩
 ·exact ⟨by show ts.length < 64; omega, by show 0 < 64; decide, by show 0 < 64; decide⟩
 ·have h1 := (Qa.mp ht).1
  have h2 := (Qa.mp hb).1
  have okt := ok.it t (Qp ht)
  have h3 := okt.two
  have h4 := (okt.br br (Qp hb)).2.1
  exact ⟨by omega, by omega, by omega⟩
theorem Yeh {ts : List It} {ls : List Nat} (ok : ∀ t ∈ ts, OkIt ls t) {k : Nat} {t : It} (ht : ts[k]? = some t) : ∀ x ∈ brC k t, CuOk ts x := fun x hx => by
 obtain ⟨b, hb, rfl⟩ := Qz.mp hx
 have hb' := H6.mp hb
 refine Or.inr ⟨t, ht, t.brs[b], Qf hb', ?_⟩
 have := ((ok t (Qp ht)).br t.brs[b] (Ho hb')).1
 exact Gf.mpr this
theorem Z7r {ts : List It} {ls : List Nat} (ok : ∀ t ∈ ts, OkIt ls t) : ∀ (n k : Nat), k + n = ts.length → ∀ x ∈ bef ts k, CuOk ts x
 | 0, k, e, x, hx => by
  unfold bef at hx
  rw [Gk (by omega)] at hx
  rw [Qj.mp hx]
  exact Or.inl (by rw [show k = ts.length by omega])
 | n + 1, k, e, x, hx => by
  have hk : k < ts.length := by omega
  unfold bef at hx
  rw [Yan (Qf hk)] at hx
  rcases Q1.mp hx with h | h
  ·exact Yeh ok (Qf hk) x h
  ·split at h
   ·exact Z7r ok n (k + 1) (by omega) x h
   ·cases h
theorem Z29 {k : Nat} {t : It} {x : Cu} (h : x ∈ brC k t) : x.1 = k := by
 obtain ⟨b, _, rfl⟩ := Qz.mp h
 rfl
theorem Z3c : ∀ {ts : List It} {k : Nat} {x : Cu}, x ∈ befL ts k → k ≤ x.1
 | [], k, x, h => by rw [Qj.mp h]; exact Qu _
 | t :: r, k, x, h => by
  rcases Q1.mp h with h | h
  ·rw [Z29 h]; exact Qu _
  ·split at h
   ·have := Z3c h; omega
   ·cases h
theorem Z28 {k : Nat} {t : It} : (brC k t).Nodup := by
 unfold brC
 rw [List.Nodup, Gm]
 exact List.Pairwise.imp (fun h e => h (by cases e; rfl)) List.nodup_range
theorem Zpg : ∀ {ts : List It} {k : Nat}, (befL ts k).Nodup
 | [], k => Hf.mpr ⟨by simp, H5⟩
 | t :: r, k => by
  refine H9.mpr ⟨Z28, ?_, fun a ha b hb e => ?_⟩
  ·split
   ·exact Zpg
   ·exact H5
  ·split at hb
   ·have := Z3c hb
    have := Z29 ha
    subst e
    omega
   ·cases hb
theorem Z3b {ts : List It} {k : Nat} : (bef ts k).Nodup := Zpg
theorem CurI.first {ls vw : List Nat} {ts : List It} (it : ∀ t ∈ ts, OkIt ls t) : CurI ls vw ts (bef ts 0) [] := ⟨Z3b, Z7r it ts.length 0 (by omega), fun w => by rw [Znl it ts.length 0 (by omega)]; rfl⟩
inductive Sk where
 | ev
 | li (ws : List (List Nat))
 | sh (ts : List It)
abbrev kEv : List Nat := [101, 118, 101, 114, 121]
abbrev kLi : List Nat := [108, 105, 115, 116, 101, 100]
abbrev kSh : List Nat := [115, 104, 97, 112, 101, 100]
def Sk.pv : Sk → PV
 | .ev => .tup [.str kEv, .lst []]
 | .li ws => .tup [.str kLi, .lst (ws.map PV.str)]
 | .sh ts => .tup [.str kSh, itsP ts]
def OkSk (ls : List Nat) (n m : Nat) : Sk → Prop
 | .ev => True
 | .li ws => (ws.length ≤ 30 ∧ (ws.length ≤ 6 ∨ ws.length * (m + 1) ≤ 63)) ∧ ∀ z ∈ ws, isW ls z = true ∧ z.length ≤ m
 | .sh ts => Yen ls n 1 ts
inductive Mst where
 | tx (z : List Nat)
 | cu (cs : List Cu)
deriving DecidableEq
def Mst.pv : Mst → PV
 | .tx z => .str z
 | .cu cs => .tup (cs.map cuP)
abbrev dead : Mst := .cu []
def nrm (ts : List It) (xs : List Cu) : List Cu := (allL ts 0).filter fun x => decide (x ∈ xs)
def begK : Sk → Mst
 | .sh ts => .cu (nrm ts (bef ts 0))
 | _ => .tx []
def Ydv (ws : List (List Nat)) (z : List Nat) : Bool := ws.any fun w => decide (w.take z.length = z)
def onK (ls vw : List Nat) : Sk → Mst → Nat → Mst
 | .ev, _, _ => .tx []
 | .sh ts, .cu cs, c => .cu (nrm ts (Z56 ls vw ts cs c))
 | .li ws, .tx z, c => if Ydv ws (z ++ [c]) = true then .tx (z ++ [c]) else dead
 | _, _, _ => dead
def Ygq : Sk → Mst → Bool
 | .ev, _ => true
 | .sh ts, .cu cs => decide ((ts.length, 0, 0) ∈ cs)
 | .li ws, .tx z => decide (z ∈ ws)
 | _, _ => false
def brl (ts : List It) (k : Nat) : Nat := (ts[k]?.map fun t => t.brs.length).getD 0
def Tog (ts : List It) (cs : List Cu) : Prop := ∀ k b, (k, b, 0) ∈ cs → ∀ b', b' < brl ts k → (k, b', 0) ∈ cs
def Yg4 : Sk → Mst → Prop
 | .ev, s => s = .tx []
 | .li ws, s => ∃ z, s = .tx z ∧ (z = [] ∨ ∃ w ∈ ws, w.take z.length = z)
 | .sh ts, s => ∃ cs, s = .cu cs ∧ cs ≠ [] ∧ nrm ts cs = cs ∧ (∀ x ∈ cs, CuOk ts x) ∧ Tog ts cs
def wdsK (ls vw : List Nat) : Sk → Wd
 | .ev => fun _ => True
 | .li ws => fun w => w ∈ ws
 | .sh ts => itsW ls vw ts
structure Zyb (ls vw : List Nat) (sk : Sk) (sts : List Mst) (rows : List (List Int)) (goods : List Bool) : Prop where
 hd : sts[0]? = some (begK sk)
 nd : sts.Nodup
 ok : ∀ s ∈ sts, Yg4 sk s
 len : rows.length = sts.length
 good : goods = sts.map (Ygq sk)
 row : ∀ (i : Nat) (s : Mst) (r : List Int), sts[i]? = some s → rows[i]? = some r → r.length = ls.length + 1 ∧ ∀ (a c : Nat), (45 :: ls)[a]? = some c → ∃ v, r[a]? = some v ∧ ((onK ls vw sk s c = dead ∧ v = -1) ∨ ∃ j : Nat, v = j ∧ sts[j]? = some (onK ls vw sk s c))
 le : sts.length ≤ 300
section
variable {ls vw : List Nat} {n m : Nat} {sk : Sk} {sts : List Mst} {rows : List (List Int)} {goods : List Bool}
theorem Zyb.at (h : Zyb ls vw sk sts rows goods) {i a c : Nat} {s : Mst} (hs : sts[i]? = some s) (hc : (45 :: ls)[a]? = some c) : (onK ls vw sk s c = dead ∧ stp rows i a = -1) ∨ ∃ j : Nat, stp rows i a = j ∧ sts[j]? = some (onK ls vw sk s c) := by
 have hi := (Qa.mp hs).1
 have hi' : i < rows.length := by rw [h.len]; exact hi
 have hr : rows[i]? = some rows[i] := Qf hi'
 obtain ⟨_, h2⟩ := h.row i s _ hs hr
 obtain ⟨v, h3, h4⟩ := h2 a c hc
 have e : stp rows i a = v := by
  unfold stp
  rw [getD_some hr, getD_some h3]
 rw [e]
 exact h4
theorem Zyb.tab (h : Zyb ls vw sk sts rows goods) : Tab (ls.length + 1) rows := by
 have h0 := (Qa.mp h.hd).1
 have row : ∀ r ∈ rows, ∃ i s, sts[i]? = some s ∧ rows[i]? = some r := fun r hr => by
  obtain ⟨i, hi⟩ := Hx hr
  have hl := (Qa.mp hi).1
  exact ⟨i, sts[i]'(by rw [← h.len]; exact hl), Qf _, hi⟩
 refine ⟨fun e => ?_, fun r hr => ?_, fun r hr v hv => ?_⟩
 ·have := h.len
  rw [e] at this
  simp at this
  omega
 ·obtain ⟨i, s, h1, h2⟩ := row r hr
  exact (h.row i s r h1 h2).1
 ·obtain ⟨i, s, h1, h2⟩ := row r hr
  obtain ⟨h3, h4⟩ := h.row i s r h1 h2
  obtain ⟨a, ha⟩ := Hx hv
  have hal := (Qa.mp ha).1
  obtain ⟨v', e, h5⟩ := h4 a _ (Qf (show a < (45 :: ls).length by rw [Qe]; omega))
  rw [ha] at e
  cases e
  rw [h.len]
  rcases h5 with ⟨_, rfl⟩ | ⟨j, rfl, hj⟩
  ·exact ⟨by omega, by omega⟩
  ·have := (Qa.mp hj).1
   exact ⟨by omega, by omega⟩
end
def rkF (w : Nat) (n : Nat) (y : List Nat) : Nat := y.foldl (fun n a => n * w + a + 1) n
def rk (w : Nat) (y : List Nat) : Nat := rkF w 0 y
theorem Zqc {w : Nat} (y : List Nat) (a : Nat) : rk w (y ++ [a]) = rk w y * w + a + 1 := by
 unfold rk rkF
 rw [Lx]
 rfl
theorem Zxu {w : Nat} {y : List Nat} {a : Nat} : inW w (y ++ [a]) ↔ inW w y ∧ a < w := by
 unfold inW
 simp only [Q1, Qj]
 exact ⟨fun h => ⟨fun b hb => h b (Or.inl hb), h a (Or.inr rfl)⟩, fun h b hb => hb.elim (h.1 b) fun e => e ▸ h.2⟩
theorem snoc_ind {P : List Nat → Prop} (h0 : P []) (hs : ∀ y a, P y → P (y ++ [a])) (y : List Nat) : P y := by
 have key : ∀ (n : Nat) (y : List Nat), y.length = n → P y := by
  intro n
  induction n with
  | zero => intro y h; rw [Gg.mp h]; exact h0
  | succ n ih =>
   intro y h
   have hne : y ≠ [] := fun e => by rw [e] at h; cases h
   rw [← List.dropLast_concat_getLast hne]
   exact hs _ _ (ih _ (by rw [List.length_dropLast, h]; rfl))
 exact key _ y rfl
def Yg6 (w : Nat) (L : List Nat → Prop) : Option (List Nat) → Prop
 | none => ∀ y, inW w y → ¬ L y
 | some y => inW w y ∧ L y ∧ ∀ z, inW w z → L z → rk w y ≤ rk w z
section
variable {σ : Type} {w : Nat} {δ : σ → Nat → Option σ} {s0 : σ}
def runO (δ : σ → Nat → Option σ) (s : σ) (y : List Nat) : Option σ := y.foldl (fun o a => o.bind fun s => δ s a) (some s)
theorem Zs4 (s : σ) (y : List Nat) (a : Nat) : runO δ s (y ++ [a]) = (runO δ s y).bind fun t => δ t a := by
 unfold runO
 rw [Lx]
 rfl
structure Bfs (w : Nat) (δ : σ → Nat → Option σ) (s0 : σ) (ord : List (σ × List Nat)) (k a : Nat) : Prop where
 hd : ord[0]? = some (s0, [])
 nd : (ord.map (·.1)).Nodup
 mono : ord.Pairwise fun p q => rk w p.2 < rk w q.2
 run : ∀ p ∈ ord, inW w p.2 ∧ runO δ s0 p.2 = some p.1
 low : ∀ q, ord[k]? = some q → ∀ p ∈ ord, rk w p.2 < rk w q.2 * w + a + 1
 sz : ∀ (i : Nat) (p : σ × List Nat), ord[i]? = some p → p.2.length ≤ i
 done : ∀ (i b : Nat) (p : σ × List Nat), (i < k ∨ (i = k ∧ b < a)) → b < w → ord[i]? = some p → ∀ t, δ p.1 b = some t → ∃ q ∈ ord, q.1 = t ∧ rk w q.2 ≤ rk w p.2 * w + b + 1
variable {ord : List (σ × List Nat)} {k a : Nat}
theorem Bfs.known (h : Bfs w δ s0 ord k a) {s : σ} {y : List Nat} (hk : ord[k]? = some (s, y)) (hs : ∀ t, δ s a = some t → t ∈ ord.map (·.1)) : Bfs w δ s0 ord k (a + 1) := by
 refine ⟨h.hd, h.nd, h.mono, h.run, fun q hq p hp => by (have := h.low q hq p hp; omega), h.sz, fun i b p hi hb hp t ht => ?_⟩
 by_cases e : i = k ∧ b = a
 ·obtain ⟨rfl, rfl⟩ := e
  rw [hk] at hp
  cases hp
  obtain ⟨q, hq, e⟩ := Qz.mp (hs t ht)
  exact ⟨q, hq, e, Tn (h.low _ hk q hq)⟩
 ·exact h.done i b p (by omega) hb hp t ht
theorem Bfs.new (h : Bfs w δ s0 ord k a) {s t : σ} {y : List Nat} (hk : ord[k]? = some (s, y)) (ha : a < w) (ht : δ s a = some t) (hn : t ∉ ord.map (·.1)) : Bfs w δ s0 (ord ++ [(t, y ++ [a])]) k (a + 1) := by
 have hkl := (Qa.mp hk).1
 have hm := Qp hk
 have hr := h.run _ hm
 refine ⟨by rw [Qy (by omega)]; exact h.hd, ?_, ?_, fun p hp => ?_, fun q hq p hp => ?_, fun i p hp => ?_, fun i b p hi hb hp u hu => ?_⟩
 ·rw [Qv, H9]
  refine ⟨h.nd, by simp, fun a ha b hb e => ?_⟩
  rw [List.map_singleton, Qj] at hb
  have hb : b = t := hb
  exact hn (by rw [← hb, ← e]; exact ha)
 ·rw [List.pairwise_append]
  refine ⟨h.mono, by simp, fun p hp q hq => ?_⟩
  rw [Qj.mp hq]
  show _ < rk w (y ++ [a])
  rw [Zqc]
  exact h.low _ hk p hp
 ·rcases Q1.mp hp with hp | hp
  ·exact h.run p hp
  ·rw [Qj.mp hp]
   exact ⟨Zxu.mpr ⟨hr.1, ha⟩, by show runO δ s0 (y ++ [a]) = _; rw [Zs4, hr.2]; exact ht⟩
 ·rw [Qy hkl, hk] at hq
  cases hq
  rcases Q1.mp hp with hp | hp
  ·have := h.low _ hk p hp; omega
  ·rw [Qj.mp hp]
   show rk w (y ++ [a]) < rk w y * w + (a + 1) + 1
   rw [Zqc]
   omega
 ·rcases G4 i ord.length with hi | hi
  ·rw [Qy hi] at hp
   exact h.sz i p hp
  ·have hbl := (Qa.mp hp).1
   rw [Qc, Hn] at hbl
   have : i = ord.length := by omega
   subst this
   rw [Qi] at hp
   cases hp
   have := h.sz _ _ hk
   show (y ++ [a]).length ≤ _
   rw [Qc, Hn]
   have : y.length ≤ k := this
   omega
 ·have hil : i < ord.length := by omega
  rw [Qy hil] at hp
  by_cases e : i = k ∧ b = a
  ·obtain ⟨rfl, rfl⟩ := e
   rw [hk] at hp
   cases hp
   rw [ht] at hu
   cases hu
   exact ⟨_, Le _ (Qj.mpr rfl), rfl, by show rk w (y ++ [b]) ≤ _; rw [Zqc]; exact Qu _⟩
  ·obtain ⟨q, hq, h1, h2⟩ := h.done i b p (by omega) hb hp u hu
   exact ⟨q, Lm _ hq, h1, h2⟩
theorem Bfs.next (h : Bfs w δ s0 ord k w) (hk : k < ord.length) : Bfs w δ s0 ord (k + 1) 0 := by
 refine ⟨h.hd, h.nd, h.mono, h.run, fun q hq p hp => ?_, h.sz, fun i b p hi hb hp t ht => h.done i b p (by omega) hb hp t ht⟩
 have hlt : rk w ord[k].2 < rk w q.2 := by
  obtain ⟨h1, rfl⟩ := Qa.mp hq
  exact Ly.mp h.mono k (k + 1) hk h1 (by omega)
 have h1 := h.low _ (Qf hk) p hp
 have h2 : (rk w ord[k].2 + 1) * w ≤ rk w q.2 * w := Ln w hlt
 rw [Nat.add_mul] at h2
 omega
theorem Yfp {α : Type} {f : α → Nat} {l : List α} (h : l.Pairwise fun p q => f p < f q) {i j : Nat} {p q : α} (hi : l[i]? = some p) (hj : l[j]? = some q) (le : i ≤ j) : f p ≤ f q := by
 obtain ⟨h1, rfl⟩ := Qa.mp hi
 obtain ⟨h2, rfl⟩ := Qa.mp hj
 rcases Nat.lt_or_eq_of_le le with h' | h'
 ·exact Tn (Ly.mp h i j h1 h2 h')
 ·subst h'; exact Qu _
theorem Bfs.all (h : Bfs w δ s0 ord k 0) : ∀ (y : List Nat) (t : σ), inW w y → runO δ s0 y = some t → (∃ q ∈ ord, q.1 = t ∧ rk w q.2 ≤ rk w y) ∨ ∃ q, ord[k]? = some q ∧ rk w q.2 < rk w y := by
 intro y
 refine snoc_ind (P := fun y => ∀ t, inW w y → runO δ s0 y = some t → (∃ q ∈ ord, q.1 = t ∧ rk w q.2 ≤ rk w y) ∨ ∃ q, ord[k]? = some q ∧ rk w q.2 < rk w y) ?_ ?_ y
 ·intro t _ ht
  cases ht
  exact Or.inl ⟨_, Qp h.hd, rfl, Qu _⟩
 ·intro y a ih t hy ht
  have hy' := Zxu.mp hy
  rw [Zs4] at ht
  cases hs : runO δ s0 y with
  | none => rw [hs] at ht; cases ht
  | some s =>
   rw [hs] at ht
   have ht : δ s a = some t := ht
   rw [Zqc]
   rcases ih s hy'.1 hs with ⟨q, hq, rfl, hle⟩ | ⟨q, hq, hlt⟩
   ·obtain ⟨i, hi⟩ := Hx hq
    have hmul : rk w q.2 * w ≤ rk w y * w := Ln w hle
    rcases G4 i k with h' | h'
    ·obtain ⟨q', h1, h2, h3⟩ := h.done i a q (Or.inl h') hy'.2 hi t ht
     exact Or.inl ⟨q', h1, h2, by omega⟩
    ·have hkl : k < ord.length := Nat.lt_of_le_of_lt h' (Qa.mp hi).1
     have hk := Qf hkl
     have := Yfp (f := fun p => rk w p.2) h.mono hk hi h'
     have h1 : rk w y * 1 ≤ rk w y * w := Nat.mul_le_mul_left _ (by omega)
     exact Or.inr ⟨_, hk, by omega⟩
   ·have h1 : rk w y * 1 ≤ rk w y * w := Nat.mul_le_mul_left _ (by omega)
    exact Or.inr ⟨q, hq, by omega⟩
theorem Bfs.none (h : Bfs w δ s0 ord k 0) {good : σ → Bool} (hk : ord.length ≤ k) (hb : ∀ i p, i < k → ord[i]? = some p → good p.1 = false) {L : List Nat → Prop} (hL : ∀ y, inW w y → (L y ↔ ∃ t, runO δ s0 y = some t ∧ good t = true)) : Yg6 w L .none := by
 intro z hz hzL
 obtain ⟨t, ht, hgt⟩ := (hL z hz).mp hzL
 rcases h.all z t hz ht with ⟨q, hq, rfl, hle⟩ | ⟨q, hq, hlt⟩
 ·obtain ⟨i, hi⟩ := Hx hq
  rw [hb i q (by have := (Qa.mp hi).1; omega) hi] at hgt
  cases hgt
 ·rw [Hm hk] at hq; cases hq
theorem Bfs.mem (h : Bfs w δ s0 ord k 0) (hk : ord.length ≤ k) (t : σ) : t ∈ ord.map (·.1) ↔ ∃ y, inW w y ∧ runO δ s0 y = some t := by
 constructor
 ·intro hm
  obtain ⟨p, hp, rfl⟩ := Qz.mp hm
  exact ⟨p.2, h.run p hp⟩
 ·rintro ⟨y, hy, hr⟩
  rcases h.all y t hy hr with ⟨q, hq, rfl, _⟩ | ⟨q, hq, _⟩
  ·exact List.mem_map_of_mem hq
  ·rw [Hm hk] at hq; cases hq
end
def Ydu (G : List Bool) (p : Int) : Bool := decide (0 ≤ p) && G.getD p.toNat false
abbrev Pr := Int × Int
def stpI (R : List (List Int)) (p : Int) (a : Nat) : Int := if 0 ≤ p then stp R p.toNat a else -1
def Z6r (R1 R2 : List (List Int)) (p : Pr) (a : Nat) : Pr := (stpI R1 p.1 a, stpI R2 p.2 a)
abbrev Rl := Bool × Bool × Bool
def Rl.on (r : Rl) (a b : Bool) : Bool := if a = true then (if b = true then r.2.2 else r.2.1) else (if b = true then r.1 else false)
abbrev Rl.pv (r : Rl) : PV := .tup [.bl false, .bl r.1, .bl r.2.1, .bl r.2.2]
structure Z7t (w : Nat) (R1 R2 : List (List Int)) (G1 G2 : List Bool) (r : Rl) (ps : List Pr) (rows : List (List Int)) (goods : List Bool) : Prop where
 hd : ps[0]? = some (0, 0)
 len : rows.length = ps.length
 good : goods = ps.map fun p => r.on (Ydu G1 p.1) (Ydu G2 p.2)
 row : ∀ (i : Nat) (p : Pr) (x : List Int), ps[i]? = some p → rows[i]? = some x → x.length = w ∧ ∀ (a : Nat) (v : Int), x[a]? = some v → (Z6r R1 R2 p a = (-1, -1) ∧ v = -1) ∨ ∃ j : Nat, v = j ∧ ps[j]? = some (Z6r R1 R2 p a)
section
variable {w : Nat} {R1 R2 : List (List Int)} {G1 G2 : List Bool} {r : Rl} {ps : List Pr} {rows : List (List Int)} {goods : List Bool}
theorem Z7t.tab (h : Z7t w R1 R2 G1 G2 r ps rows goods) : Tab w rows := by
 have h0 := (Qa.mp h.hd).1
 have row : ∀ x ∈ rows, ∃ i p, ps[i]? = some p ∧ rows[i]? = some x := fun x hx => by
  obtain ⟨i, hi⟩ := Hx hx
  have hl := (Qa.mp hi).1
  exact ⟨i, ps[i]'(by rw [← h.len]; exact hl), Qf _, hi⟩
 refine ⟨fun e => ?_, fun x hx => ?_, fun x hx v hv => ?_⟩
 ·have := h.len
  rw [e] at this
  simp at this
  omega
 ·obtain ⟨i, p, h1, h2⟩ := row x hx
  exact (h.row i p x h1 h2).1
 ·obtain ⟨i, p, h1, h2⟩ := row x hx
  obtain ⟨a, ha⟩ := Hx hv
  rcases (h.row i p x h1 h2).2 a v ha with ⟨_, rfl⟩ | ⟨j, rfl, hj⟩
  ·rw [h.len]; exact ⟨by omega, by omega⟩
  ·have := (Qa.mp hj).1
   rw [h.len]; exact ⟨by omega, by omega⟩
end
section
variable {S : Sc}
def Z5o (i : Nat) (e : DE) : DS := fun E ds M => ∃ v : Int, ds[i]? = some (some (vI v)) ∧ e ds M fun z M1 => ∃ w : Int, z = vI w ∧ E.nx (ds.set i (some (vI (v + w)))) M1
theorem Zw9 {i : Nat} {te : TE} {e : DE} (he : SimE S te e) : SimS S (tAug i te (ipI fun i j => i + j)) (Z5o i e) := fun c M σ ds E Ed ok rs ⟨v, hv, q⟩ po => by
 obtain ⟨x, hx, rx⟩ := rs.2 i _ hv
 cases (show x = .int v from rx)
 refine ⟨_, hx, he c M σ ds _ _ ok rs q fun c1 M1 v1 d1 s1 r1 p1 ⟨w, e1, q1⟩ => ?_⟩
 subst e1
 cases (show v1 = .int w from p1)
 exact ⟨v, w, rfl, rfl, po.nx _ _ _ _ s1 r1 ((rs.step s1).set (show RpD S.K S.cs c1.F c1.ρ (vI (v + w)) (.int (v + w)) from rfl)) q1⟩
theorem Z7h {i : Nat} {v : Int} {e : DE} {E : Zfi} {ds : DSt} {M : Mem} (hv : ds[i]? = some (some (vI v))) (h : e ds M fun z M1 => ∃ w : Int, z = vI w ∧ E.nx (ds.set i (some (vI (v + w)))) M1) : Z5o i e E ds M := ⟨v, hv, h⟩
end
def Zgf : DSp := fun ds M Q _ => ∃ (ls vw : List Nat) (n m : Nat) (sk : Sk), ds = [.v (alph ls vw), .v sk.pv] ∧ LsOk ls ∧ (45 :: ls).Nodup ∧ ls.length ≤ 60 ∧ vw.length ≤ 60 ∧ OkSk ls n m sk ∧ n ≤ 4 ∧ m ≤ 1000 ∧ ∀ R G, Stk ls R G (wdsK ls vw sk) → Q (.v (Ya6 (alph ls vw) R G)) M
theorem Zj8 (ds : List D) (M : Mem) (Q : DQ) (E : DX) (h : Zgf ds M Q E) : ds.length = 2 := by obtain ⟨_, _, _, _, _, rfl, _⟩ := h; rfl
def dotF : List Int → (Nat → Int) → Nat → Int
 | [], _, _ => 0
 | x :: xs, v, i => x * v i + dotF xs v (i + 1)
abbrev dot (W : List Int) (v : Nat → Int) : Int := dotF W v 0
theorem Zx1 (v : Nat → Int) (y : Int) : ∀ (W : List Int) (i n : Nat) (x : Int), W[n]? = some x → dotF (W.set n (x + y)) v i = dotF W v i + y * v (i + n)
 | [], _, _, _, h => by simp at h
 | a :: W, i, 0, x, h => by
  cases h
  show (a + y) * v i + dotF W v (i + 1) = a * v i + dotF W v (i + 1) + y * v i
  rw [Int.add_mul]
  omega
 | a :: W, i, n + 1, x, h => by
  have ih := Zx1 v y W (i + 1) n x (by simpa using h)
  show a * v i + dotF (W.set n (x + y)) v (i + 1) = a * v i + dotF W v (i + 1) + y * v (i + (n + 1))
  rw [ih, show i + 1 + n = i + (n + 1) by omega]
  omega
theorem Z93 {v : Nat → Int} {y x : Int} {W : List Int} {n : Nat} (h : W[n]? = some x) : dot (W.set n (x + y)) v = dot W v + y * v n := by
 have := Zx1 v y W 0 n x h
 rwa [L5] at this
def Zls (v : Nat → Int) (r : List Int) : Int := (r.map fun s => if 0 ≤ s then v s.toNat else 0).sum
theorem Zsk (v : Nat → Int) (r : List Int) (s : Int) : Zls v (r ++ [s]) = Zls v r + if 0 ≤ s then v s.toNat else 0 := by
 unfold Zls
 rw [Qv, Lk]
 simp
def Yel (R : List (List Int)) (W : List Int) (p : Nat) (r L : List Int) : Prop := L.length = R.length ∧ ∀ v : Nat → Int, dot L v = ((List.range p).map fun q => W.getD q 0 * Zls v (R.getD q [])).sum + W.getD p 0 * Zls v r
theorem wp_step {R : List (List Int)} {W : List Int} {p : Nat} {r L : List Int} {s x : Int} (h : Yel R W p r L) (h0 : 0 ≤ s) (hx : L[s.toNat]? = some x) : Yel R W p (r ++ [s]) (L.set s.toNat (x + W.getD p 0)) := by
 refine ⟨by rw [Lo]; exact h.1, fun v => ?_⟩
 rw [Z93 hx, h.2 v, Zsk, if_pos h0, Int.mul_add]
 omega
abbrev cxA (CX : CXT) (P : Program) (w : World) (K : PySem.W.Frag) (mg : Str → Option Value) (base : Heap) (N : List Str) (qual : Str) (scope : Scope) (f : Addr) (cd : Value) (A : Around) (outer : List Env) (s : Shared) (H : Hp) (E : XK) : Cx :=
 { prog := P, w := w, K := K, mg := mg, base := base, A := A.deeper (envOfC qual scope s.heap.objs.size f cd), N := N, s_0 := s, H_0 := H, env := envOfC qual scope s.heap.objs.size f cd, outer := outer, stack := envOfC qual scope s.heap.objs.size f cd :: outer, ex := [], fn := fun _ => true, calm := true, pn := [],
   xe := fun e s' => wpAny (model P w) (A.deeper (envOfC qual scope s.heap.objs.size f cd)) (leaving (envOfC qual scope s.heap.objs.size f cd) e) (fun _ s'' => CX outer H s E e s'') (fun e' s'' => CX outer H s E e' s'') s' }
section
variable {P : Program} {w : World} {K : PySem.W.Frag} {mg : Str → Option Value} {base : Heap} {cs : List Cn} {CX : CXT} {x qual : Str} {params : Arguments} {body : List Stmt} {scope : Scope} {dvs : List V} {kws : List (Str × V)} {f : Addr} {fd : FuncData} {N ps : List Str} {k : Nat} {g : DSp} {r : DX → DS}
def KB (CX : CXT) (P : Program) (w : World) (K : PySem.W.Frag) (mg : Str → Option Value) (base : Heap) (cs : List Cn) (N : List Str) (qual : Str) (scope : Scope) (f : Addr) (k : Nat) (body : List Stmt) (r : DX → DS) : Prop :=
 ∀ (cdv : Value) (A : Around) (outer : List Env) (s : Shared) (H : Hp) (E : XK) (c : CS) (M : Mem) (Ed : DX), N.Nodup → Room k (A.deeper (envOfC qual scope s.heap.objs.size f cdv)) → PoX ⟨K, cs, c, M⟩ c M Ed E →
  ∃ t, SimS ⟨K, cs, c, M⟩ t (r Ed) ∧ PSs (cxA CX P w K mg base N qual scope f cdv A outer s H E) body t
theorem fnA (F : FunD K x qual params body scope dvs kws f fd) (S : FnScope N ps scope) (hl : ∀ ds M Q E, g ds M Q E → ds.length = ps.length)
  (ref : ∀ ds M Q E, g ds M Q E → r (Zbf M E) { nx := fun _ M' => Zab M Q (.v .non) M', rt := Zab M Q } (Zac N.length ds) M)
  (h : KB CX P w K mg base cs N qual scope f k body r) : FnOk P w K mg base CX (k + 1) f fd ps (spD K cs g) := by
 refine F.ok S (Zdp hl) (fun cdv A outer s H vs Q E hr hsp => ?_)
 obtain ⟨c, M, ds, Qd, Ed, rfl, rl, ra, hg, hq, he⟩ := hsp
 have hq' : ∀ c' M' v d, Step c M c' M' → Rel K cs c' M' → RpD K cs c'.F c'.ρ d v → Zab M Qd d M' → Q v c'.H := fun c' M' v d s r p ⟨q1, q2, q3⟩ => by
  obtain ⟨r2, s2, e2⟩ := rl.cut r s q2
  exact hq ⟨c'.F, c'.ρ.take M.length, c'.H⟩ _ v d s2 r2 (p.low q1) q3
 have he' : ∀ c' M' cls d e, Step c M c' M' → Rel K cs c' M' → RpX K cs c' e cls d → Zbf M Ed e M' → E cls d c'.H := fun c' M' cls d e s r p ⟨q2, q3⟩ => by
  obtain ⟨r2, s2, e2⟩ := rl.cut r s q2
  exact he ⟨c'.F, c'.ρ.take M.length, c'.H⟩ _ cls d e s2 r2 p q3
 obtain ⟨t, hs, hp⟩ := h cdv A outer s c.H E c M (Zbf M Ed) S.nd hr he'
 exact ⟨t, hp, hs c M (L2.start N vs) (Zac N.length ds) _ { nx := fun _ M' => Zab M Qd (.v .non) M', rt := Zab M Qd } ⟨Step.refl _ _, rl⟩ (Zhl ra) (ref ds M Qd Ed hg) ⟨fun c' M' σ' ds' s r _ q => hq' c' M' .non (.v .non) s r rfl q, fun c' M' v d s r p q => hq' c' M' v d s r p q, fun _ _ _ _ _ _ _ q => q.elim, fun _ _ _ _ _ _ _ q => q.elim⟩⟩
theorem fnK (F : FunD K x qual params body scope dvs kws f fd) (S : FnScope N ps scope) (hl : ∀ ds M Q E, g ds M Q E → ds.length = ps.length)
  (ref : ∀ ds M Q E, g ds M Q E → r E { nx := fun _ M' => Q (.v .non) M', rt := Q } (Zac N.length ds) M)
  (h : KB CX P w K mg base cs N qual scope f k body r) : FnOk P w K mg base CX (k + 1) f fd ps (spD K cs g) := by
 refine F.ok S (Zdp hl) (fun cdv A outer s H vs Q E hr hsp => ?_)
 obtain ⟨c, M, ds, Qd, Ed, rfl, rl, ra, hg, hq, he⟩ := hsp
 obtain ⟨t, hs, hp⟩ := h cdv A outer s c.H E c M Ed S.nd hr he
 exact ⟨t, hp, hs c M (L2.start N vs) (Zac N.length ds) _ { nx := fun _ M' => Qd (.v .non) M', rt := Qd } ⟨Step.refl _ _, rl⟩ (Zhl ra) (ref ds M Qd Ed hg) ⟨fun c' M' σ' ds' s r _ q => hq c' M' .non (.v .non) s r rfl q, fun c' M' v d s r p q => hq c' M' v d s r p q, fun _ _ _ _ _ _ _ q => q.elim, fun _ _ _ _ _ _ _ q => q.elim⟩⟩
end
class KFn (P : Program) (w : World) (K : PySem.W.Frag) (mg : Str → Option Value) (base : Heap) (cs : List Cn) (g : DSp) (k : outParam Nat) (x : outParam (Option Str)) (f : outParam Addr) (fd : outParam FuncData) (ps : outParam (List Str)) : Prop where
 ok : FnOk P w K mg base (L2.CX P w) k f fd ps (spD K cs g)
 bi : Binds K fd ps []
 kp : PySem.W.keepIn K (.ref f) = true
 gl : ∀ y, x = some y → mg y = some (.ref f)
class KGl (mg : Str → Option Value) (x : Str) (u : outParam (Option Value)) : Prop where
 is : mg x = u
class KMk (K : PySem.W.Frag) (c : Cn) (f : outParam Addr) : Prop where
 mks : Mk K (ga K c.str) f
class KMo (P : Program) (w : World) (K : PySem.W.Frag) (mg : Str → Option Value) (base : Heap) (cs : List Cn) (g : Cn → Option DSp) (m : outParam Str) (k : outParam Nat) : Prop where
 ok : ∀ C sp, okM K cs g C sp → Znp P w K mg base (L2.CX P w) k m C sp []
class KXc (P : Program) (w : World) (K : PySem.W.Frag) (mg : Str → Option Value) (base : Heap) (c : Cn) (sp : outParam Sp) (f : outParam Addr) (fd : outParam FuncData) (ps : outParam (List Str)) : Prop where
 x : XCls K (ga K c.str)
 i : PySem.W.findIn K (.ref (ga K c.str)) "__init__" = some (some (.ref f))
 ti : PySem.W.typeIn K (.ref f) = some (.type "function")
 ok : FnOk P w K mg base (L2.CX P w) 1 f fd ps sp
 bi : Binds K fd ps []
class KSp (K : PySem.W.Frag) (c : Cn) (m : Str) (f : outParam Addr) : Prop where
 me : Meth K (ga K c.str) m f
class KCv (K : PySem.W.Frag) (mg : Str → Option Value) (x f : Str) (v : outParam V) : Prop where
 cv : ∃ C, mg x = some (.ref C) ∧ CRead K C (.type "type") ∧ ∃ u, CVal K C (.type "type") f v u
class KNb (mg : Str → Option Value) (x : Str) (u : outParam Value) : Prop where
 is : mg x = none
 bt : bootBuiltins x = some u
class KMe (P : Program) (w : World) (K : PySem.W.Frag) (mg : Str → Option Value) (base : Heap) (cs : List Cn) (c : Cn) (g : DSp) (m : outParam Str) (k : outParam Nat) : Prop where
 ok : Znp P w K mg base (L2.CX P w) k m (ga K c.str) (spD K cs g) []
section
variable {P : Program} {w : World} {K : PySem.W.Frag} {mg : Str → Option Value} {base : Heap} {cs : List Cn} {c : Cn} {g : DSp} {m : Str} {k j : Nat} {f : Addr} {fd : FuncData} {ps : List Str} {y : Option Str}
theorem kme [h : KMe P w K mg base cs c g m j] (hk : j ≤ k) : Znp P w K mg base (L2.CX P w) k m (ga K c.str) (spD K cs g) [] := by
 obtain ⟨cl, f, fd, ps, ds, a, b, r⟩ := h.ok
 exact ⟨cl, f, fd, ps, ds, a, b.mono hk, r⟩
instance [h : KMe P w K mg base cs c g m k] : KMo P w K mg base cs (gm1 c g) m k := ⟨by
 rintro C sp ⟨q, hk, rfl, p, hg, rfl⟩
 obtain ⟨rfl, rfl⟩ := Z2f hg
 exact h.ok⟩
theorem kraw [h : KFn P w K mg base cs g k y f fd ps] : FnR P w K mg base (L2.CX P w) k f (fun vs => spD K cs g (vs ++ [])) := FnOk.raw h.ok h.bi .nil
theorem kbN {x qual : Str} {params : Arguments} {body : List Stmt} {scope : Scope} {kws : List (Str × V)} (F : FunD K x qual params body scope [] kws f fd)
  (h : ∀ (kV doc pm : Value) (an : Option Addr) (cdv ct : Value) (us : List Value), us.length = ps.length → bindArgs (PySem.W.fnOf x qual params body scope .none kV doc pm an cdv ct) ⟨us, []⟩ = pure (ps.zip us)) : Binds K fd ps [] := F.bindsN h
end
class KFk (P : Program) (w : World) (K : PySem.W.Frag) (mg : Str → Option Value) (base : Heap) (cs : List Cn) (g : DSp) (k : outParam Nat) (f : outParam Addr) (fd : outParam FuncData) (ps : outParam (List Str)) (n : outParam Nat) (ks : outParam (List Str)) : Prop where
 ok : FnOk P w K mg base (L2.CX P w) k f fd ps (spD K cs g)
 kb : KBn K fd ps n ks (fun us ws => us ++ ws) (fun vs zs => vs ++ zs)
class KNe (K : PySem.W.Frag) (c : Cn) : Prop where
 ne : NeC K (ga K c.str)
class KFs (P : Program) (w : World) (K : PySem.W.Frag) (mg : Str → Option Value) (base : Heap) (cs : List Cn) (g : DSp) (k : outParam Nat) (f : outParam Addr) : Prop where
 ok : FnR P w K mg base (L2.CX P w) k f (Zly 2 (spD K cs g))
class KTb (K : PySem.W.Frag) (w : World) (kvs : List (List Nat × Int)) (y : outParam Str) : Prop where
 tb : TabD K w (ga K y) kvs
class KCs (K : PySem.W.Frag) (cs : List Cn) : Prop where
 ok : CsOk K cs
class KIs (K : PySem.W.Frag) (cs : List Cn) (tab : Kd → Option Bool) (tv : PV) : Prop where
 si : ∀ {c0 : CS} {M0 : Mem}, SimR ⟨K, cs, c0, M0⟩ (zIsi K) (uIsi tab tv)
section
variable {X : Cx} {e o a b : Expr} {es : List Expr} {t ta tr : TA} {te to tb : TE} {pos p apos : Pos} {E : XK} {g : DSp} {k j : Nat} {f : Addr} {fd : FuncData} {ps : List Str} {x m : Str} {cs : List Cn} {c : Cn}
def nmB (x : Str) : Bool := !(x == "__debug__" || x == "__classdict__" || x == "__name__")
theorem nm1 {x : Str} (h : nmB x = true) : (x == ("__debug__" : Str)) = false := by unfold nmB at h; cases e : x == ("__debug__" : Str) <;> simp_all
theorem nm2 {x : Str} (h : nmB x = true) : (x == ("__classdict__" : Str)) = false := by unfold nmB at h; cases e : x == ("__classdict__" : Str) <;> simp_all
theorem nm3 {x : Str} (h : nmB x = true) : x ≠ "__name__" := by
 unfold nmB at h
 rintro rfl
 revert h
 decide +kernel
def visB (sc : Scope) (x : Str) : Bool := match sc.names.lookup x with | some .local => true | some .cell => true | some .free => true | _ => false
theorem Yay {sc : Scope} {x : Str} (h : visB sc x = true) : Vis sc x := by
 unfold visB at h
 unfold Vis
 split at h
 ·exact .inl (by assumption)
 ·exact .inr (.inl (by assumption))
 ·exact .inr (.inr (by assumption))
 ·cases h
def locB (sc : Scope) (x : Str) : Bool := match sc.names.lookup x with | some .local => true | some .cell => true | _ => false
theorem Z1o {sc : Scope} {x : Str} (h : locB sc x = true) : L2.Loc sc x := by
 unfold locB at h
 unfold L2.Loc
 split at h
 ·exact .inl (by assumption)
 ·exact .inr (by assumption)
 ·cases h
def fnB (X : Cx) (x : Str) : Bool := X.fn x || (match X.env.scope.names.lookup x with | some .local => true | _ => false)
theorem Z2k {X : Cx} {x : Str} (h : fnB X x = true) : X.fn x = true ∨ X.env.scope.names.lookup x = some .local := by
 unfold fnB at h
 rcases Bool.or_eq_true_iff.mp h with h | h
 ·exact .inl h
 ·split at h
  ·exact .inr (by assumption)
  ·cases h
theorem gBt {b : Bool} (h : b = true) : b = true := h
theorem gBf {b : Bool} (h : b = false) : b = false := h
theorem gLe2 {a b : List (Bool × Sem Value)} (h : a = b) : a = b := h
theorem gOs {a b : Option Str} (h : a = b) : a = b := h
theorem gOk {a b : Option NameKind} (h : a = b) : a = b := h
theorem gSt {a b : Str} (h : a = b) : a = b := h
theorem gEq {α : Sort _} {a b : α} (h : a = b) : a = b := h
theorem gOr {a b : Prop} (h : a ∨ b) : a ∨ b := h
theorem gPE (h : PE X e te) : PE X e te := h
theorem gPA (h : PA X es t) : PA X es t := h
theorem gPT {t : TT} (h : L2.PT X e t) : L2.PT X e t := h
theorem gPS {s : Stmt} {t : TS} (h : PS X s t) : PS X s t := h
theorem gPSs {s : List Stmt} {t : TS} (h : PSs X s t) : PSs X s t := h
theorem kV {i : Nat} (hN : X.N[i]? = some x) (hv : visB X.env.scope x = true) (hd : nmB x = true) : PE X (.Name x pos) (tVar i) := pe_var hN (Yay hv) (nm1 hd) (nm2 hd)
theorem kFld {fl : Fd} {ta : TE} (he : PE X e ta) (hf : x = fl.str) (hb : attributeBase e x X.env (eval e X.env) = eval e X.env) : PE X (.Attribute e x pos) (tFld X.K ta fl.str) := by subst hf; exact pe_fld he hb
theorem kStF {fl : Fd} {value : Expr} {pos' : Pos} {ta tv : TE} (ha : PE X o ta) (hv : PE X value tv) (hf : x = fl.str) (hs : swapsWith value (some (.Attribute o x pos')) pos.line X.env = pure false) : PS X (.Assign [.Attribute o x pos'] value pos) (sFld X.K ta tv fl.str) := by subst hf; exact ps_fld ha hv hs
theorem kTru {ta : TE} (ha : PE X a ta) (he : ∀ whole : Sem Value, isTrue a X.env whole = (do let v ← whole; standAt a.pos; holding [v] (truthy v))) : L2.PT X a (tTru X.K ta) := pt_truth ha he
theorem kGlo {u : Value} {v : V} [h : KGl X.mg x (some u)] (hg : L2.Gl X x) (r : RelV v u) (hd : nmB x = true) : PE X (.Name x pos) (tC v) := pe_glob hg h.is r (nm1 hd)
theorem kBlt {u : Value} {v : V} [h : KNb X.mg x u] (hg : L2.Gl X x) (r : RelV v u) (hd : nmB x = true) : PE X (.Name x pos) (tC v) := pe_bltn hg h.is h.bt r (nm3 hd) (nm1 hd)
theorem kCB {id : String} {r : List V → Hp → VK → Prop} [h : KNb X.mg x (.builtin id)] (hc : CallR X (.builtin id) r) (ha : PA X (e :: es) t) (hg : L2.Gl X x) (hd : nmB x = true)
  (hs : starEach (e :: es) X.env = (false, eval e X.env) :: starEach es X.env) (hp : (backTo pos (starEach es X.env)).any (·.1) = false) : PE X (.Call (.Name x p) (e :: es) [] pos) (tCB r t) := pe_callB hc hg h.is h.bt ha (nm3 hd) (nm1 hd) hs hp
theorem kCT {T : String} {r : List V → Hp → VK → Prop} [h : KNb X.mg x (.type T)] (hc : CallR X (.type T) r) (ha : PA X (e :: es) t) (hg : L2.Gl X x) (hd : nmB x = true)
  (hs : starEach (e :: es) X.env = (false, eval e X.env) :: starEach es X.env) (hp : (backTo pos (starEach es X.env)).any (·.1) = false) : PE X (.Call (.Name x p) (e :: es) [] pos) (tCB r t) := pe_callTy hc hg h.is h.bt ha (nm3 hd) (nm1 hd) hs hp
theorem Ygl [F : KFn X.prog X.w X.K X.mg X.base cs g k (some x) f fd ps] (hr : Room j X.A) (hk : k ≤ j) (hg : L2.Gl X x) (hx : Passes (L2.CX X.prog X.w) X E) (ha : PA X (e :: es) t) (hd : nmB x = true)
  (hs : starEach (e :: es) X.env = (false, eval e X.env) :: starEach es X.env) (hp : (backTo pos (starEach es X.env)).any (·.1) = false) : PE X (.Call (.Name x p) (e :: es) [] pos) (tCall (spD X.K cs g) [] E t) :=
 pe_call F.ok (hr.mono hk) hg (F.gl _ rfl) F.kp F.bi .nil hx ha (nm1 hd) hs hp
theorem Yge {C : Value} [M : KMk X.K c f] [F : KFn X.prog X.w X.K X.mg X.base cs g k none f fd ps] [h : KGl X.mg x (some C)] (hC : C = .ref (ga X.K c.str)) (hr : Room j X.A) (hk : k + 1 ≤ j) (hg : L2.Gl X x) (hx : Passes (L2.CX X.prog X.w) X E) (ha : PA X (e :: es) t) (hd : nmB x = true)
  (hs : starEach (e :: es) X.env = (false, eval e X.env) :: starEach es X.env) (hp : (backTo pos (starEach es X.env)).any (·.1) = false) : PE X (.Call (.Name x p) (e :: es) [] pos) (tMake (ga X.K c.str) (spD X.K cs g) [] E t) :=
 pe_make M.mks F.ok (hr.mono hk) hg (h.is.trans (congrArg some hC)) F.bi .nil hx ha (nm1 hd) hs hp
theorem Ygd {gm : Cn → Option DSp} {pl : Sem Bool} [F : KMo X.prog X.w X.K X.mg X.base cs gm m k] (ho : PE X o to) (hr : Room j X.A) (hk : k ≤ j) (hx : Passes (L2.CX X.prog X.w) X E) (ha : PA X (e :: es) t)
  (hs : starEach (e :: es) X.env = (false, eval e X.env) :: starEach es X.env) (hp : (backTo pos (starEach es X.env)).any (·.1) = false)
  (ht : eval (.Call (.Attribute o m apos) (e :: es) [] pos) X.env = (do
   let ov ← eval o X.env
   standAt apos.atName
   let (f, first) ← holding [ov] (getMethod ov m pl)
   callWith pos f first (backTo pos (starEach (e :: es) X.env)) (backToKw pos (keywordEach [] X.env)))) : PE X (.Call (.Attribute o m apos) (e :: es) [] pos) (Zfn (okM X.K cs gm) m [] E to t) :=
 Zf9 ho F.ok (hr.mono hk) hx ha hs hp ht
theorem Ydl {gm : Cn → Option DSp} {pl : Sem Bool} [F : KMo X.prog X.w X.K X.mg X.base cs gm m k] (ho : PE X o to) (hr : Room j X.A) (hk : k ≤ j) (hx : Passes (L2.CX X.prog X.w) X E)
  (ht : eval (.Call (.Attribute o m apos) [] [] pos) X.env = (do
   let ov ← eval o X.env
   standAt apos.atName
   let (f, first) ← holding [ov] (getMethod ov m pl)
   callWith pos f first (backTo pos (starEach [] X.env)) (backToKw pos (keywordEach [] X.env)))) : PE X (.Call (.Attribute o m apos) [] [] pos) (Zfn (okM X.K cs gm) m [] E to tNil) :=
 Z08 ho F.ok (hr.mono hk) hx ht
theorem Ygc {C : Value} {sp : Sp} [F : KXc X.prog X.w X.K X.mg X.base c sp f fd ps] [h : KGl X.mg x (some C)] (hC : C = .ref (ga X.K c.str)) (hc : X.calm = true) (tk : L2.Takes X fun cls d _ H => E cls d H) (hr : Room j X.A) (hk : 2 ≤ j) (hg : L2.Gl X x) (ha : PA X (e :: es) t) (hd : nmB x = true)
  (hs : starEach (e :: es) X.env = (false, eval e X.env) :: starEach es X.env) (hp : (backTo pos (starEach es X.env)).any (·.1) = false) : PS X (.Raise (some (.Call (.Name x p) (e :: es) [] pos)) none apos) (Zem E (ga X.K c.str) sp t) :=
 ps_raise hc tk (pmk_oex F.x.o F.i F.ti F.ok (hr.mono hk) F.bi .nil passL hg (h.is.trans (congrArg some hC)) ha (nm1 hd) hs hp)
theorem kLc {elt tg iter : Expr} {ifs : List Expr} {scope : Scope} {wi : TI} {gt : TG} {tt : TT} {vs : List Nat} (hc : X.calm = true) (hN : X.N.Nodup) (hi : PI X tg iter wi) (ok : blkC X.N X.env.scope scope (vs.map fun i => (X.N.getD i default, i)) = true)
  (hg : ∀ (s : Shared) (H : Hp) (C : Addr) (cl : List (Str × Addr)) (fp : List Addr), PG (X.blk s H scope (compEnvC scope cl C X.env) fp) tg gt) (ht : ∀ (s : Shared) (H : Hp) (C : Addr) (cl : List (Str × Addr)) (fp : List Addr), PTs (X.blk s H scope (compEnvC scope cl C X.env) fp) ifs tt)
  (he : ∀ (s : Shared) (H : Hp) (C : Addr) (cl : List (Str × Addr)) (fp : List Addr), PE (X.blk s H scope (compEnvC scope cl C X.env) fp) elt te) (hs : ∀ x, foldedSetIterable iter X.env x = pure x) :
  PE X (.ListComp elt [⟨tg, iter, ifs, 0⟩] scope pos) (tLc wi gt tt te vs) := by
 have e : (vs.map fun i => ((X.N.getD i default, i) : Str × Nat)).map (·.2) = vs := by rw [Qq]; exact Te _
 have h := pe_lc (pos := pos) hc hN hi (blkOk_by ok) hg ht he hs
 rw [e] at h
 exact h
theorem Ydj {i : Nat} {y : Str} {py spos : Pos} {elt tg iter : Expr} {ifs : List Expr} {scope : Scope} {wi : TI} {gt : TG} {tt : TT} {vs : List Nat} (h2 : X.env.scope.names.lookup y = some .local) (hc : X.calm = true) (hN : X.N.Nodup) (hi : PI X tg iter wi) (h1 : X.N[i]? = some y) (hk : X.env.scope.kind = .function) (hl : (py.line == spos.line) = true)
  (hw : (scope.names.any fun x => match x with | (n, k) => n == y && (k == NameKind.local || k == NameKind.cell)) = false)
  (ok : blkC X.N X.env.scope scope (vs.map fun i => (X.N.getD i default, i)) = true)
  (hg : ∀ (s : Shared) (H : Hp) (C : Addr) (cl : List (Str × Addr)) (fp : List Addr), PG (X.blk s H scope (compEnvC scope cl C X.env) fp) tg gt) (ht : ∀ (s : Shared) (H : Hp) (C : Addr) (cl : List (Str × Addr)) (fp : List Addr), PTs (X.blk s H scope (compEnvC scope cl C X.env) fp) ifs tt)
  (he : ∀ (s : Shared) (H : Hp) (C : Addr) (cl : List (Str × Addr)) (fp : List Addr), PE (X.blk s H scope (compEnvC scope cl C X.env) fp) elt te) (hs : ∀ x, foldedSetIterable iter X.env x = pure x) :
  PS X (.Assign [.Name y py] (.ListComp elt [⟨tg, iter, ifs, 0⟩] scope spos) pos) (tAsg (tLc wi gt tt te vs) (gName i)) := by
 have e : (vs.map fun i => ((X.N.getD i default, i) : Str × Nat)).map (·.2) = vs := by rw [Qq]; exact Te _
 have h := ps_setLc (pos := spos) (spos := pos) (py := py) hc hN h1 h2 (sw_true hk h2 hl hw) hi (blkOk_by ok) hg ht he hs
 rw [e] at h
 exact h
theorem Ydm {C : Value} {kws : List Keyword} {tk : TA} {n nk m : Nat} {ks : List Str} [M : KMk X.K c f] [F : KFk X.prog X.w X.K X.mg X.base cs g k f fd ps m ks] [h : KGl X.mg x (some C)] (hkw : PK X kws tk) (hks : (backToKw pos (keywordEach kws X.env)).filterMap (·.1) = ks) (hn : nk = ks.length) (hm : m = n + 1) (hC : C = .ref (ga X.K c.str)) (hr : Room j X.A) (hk : k + 1 ≤ j) (hg : L2.Gl X x) (hx : Passes (L2.CX X.prog X.w) X E) (ha : PA X (e :: es) t)
  (hall : (backToKw pos (keywordEach kws X.env)).all (·.1.isSome) = true) (hd : nmB x = true)
  (he : starEach (e :: es) X.env = (false, eval e X.env) :: starEach es X.env) (hpl : ((backTo pos (starEach (e :: es) X.env)).any (·.1) || (backToKw pos (keywordEach kws X.env)).any (·.1.isNone)) = false) :
  PE X (.Call (.Name x p) (e :: es) kws pos) (tMakeK (ga X.K c.str) n nk (spD X.K cs g) (fun vs zs => vs ++ zs) E t tk) := by
 subst hn hm
 exact pe_makeK M.mks F.ok (hr.mono hk) hg (h.is.trans (congrArg some hC)) F.kb hx ha hkw hall hks (nm1 hd) he hpl
theorem Ygk {pc : Pos} {fl : Str} {u : V} [V : KCv X.K X.mg x fl u] (hg : L2.Gl X x) (hd : nmB x = true) (hb : attributeBase (.Name x pc) fl X.env (eval (.Name x pc) X.env) = eval (.Name x pc) X.env) : PE X (.Attribute (.Name x pc) fl pos) (tC u) := by
 obtain ⟨C, hC, cr, w, q⟩ := V.cv
 have h1 := pe_cval (pos := pos) (pe_glob (pos := pc) hg hC (show RelV (.ref C) _ from rfl) (nm1 hd)) hb
 exact ⟨fun pins s σ H Q I r => h1.run pins s σ H Q I ⟨_, _, _, _, rfl, cr, q, r⟩⟩
theorem kEq (hr : Room k X.A) : OpR X (compareOp .Eq) (zEq X.K) := Z83 (hu64 hr)
theorem kNe (hr : Room k X.A) : OpR X (compareOp .NotEq) (zNe X.K) := Z81 (hu64 hr)
theorem kIn (hr : Room k X.A) : OpR X (compareOp .In) (zIn X.K) := Yft (hu64 hr)
theorem Ydk (hr : Room k X.A) : OpR X (compareOp .NotIn) (Zr7 X.K) := Z4i (hu64 hr)
theorem Z47 (hr : Room k X.A) : OpR X (compareOp .NotIn) (Zyo X.K true) := Zyp (hu65 hr)
theorem kEqI [F : KFn X.prog X.w X.K X.mg X.base cs g k none f fd ps] [S : KSp X.K c "__eq__" f] (hr : Room j X.A) (hk : k ≤ j) : OpR X (compareOp .Eq) (rEqI (ga X.K c.str) (spD X.K cs g) E0) := Ycc F.ok (hr.mono hk) S.me F.bi passL
theorem kNeI [F : KFn X.prog X.w X.K X.mg X.base cs g k none f fd ps] [S : KSp X.K c "__eq__" f] [n : KNe X.K c] (hr : Room j X.A) (hk : k + 1 ≤ j) : OpR X (compareOp .NotEq) (rNeI (ga X.K c.str) (spD X.K cs g) E0) := Z6v F.ok (hr.mono hk) S.me n.ne F.bi passL
theorem Ygh [F : KFn X.prog X.w X.K X.mg X.base cs g k none f fd ps] [S : KSp X.K c "__len__" f] (hr : Room j X.A) (hk : k + 1 ≤ j) : CallR X (.builtin "len") (Z70 (ga X.K c.str) (spD X.K cs g) E0) := Yab F.ok (hr.mono hk) S.me F.bi passL
theorem kApp (ho : PE X o to) (ha : PA X (e :: es) t) (h1 : attributeBase o "append" X.env (eval o X.env) = eval o X.env) (h2 : ((backTo pos (starEach (e :: es) X.env)).all (fun x => !x.1) && (backToKw pos (keywordEach [] X.env)).all (fun x => x.1.isSome) && decide ((e :: es).length + ([] : List Keyword).length + (if ([] : List Keyword).isEmpty then 0 else 1) < 30)) = true) (h3 : (apos.endLine == pos.line) = true)
  (hs : starEach (e :: es) X.env = (false, eval e X.env) :: starEach es X.env) (hp : (backTo pos (starEach es X.env)).any (·.1) = false) : PE X (.Call (.Attribute o "append" apos) (e :: es) [] pos) (tBM X.K "list" zApp to t) := pe_bm PySem.F.plainAttrs_list PySem.F.slot_list_append PySem.F.type_list_append Ycj ho ha h1 h2 h3 hs hp
theorem kPop (ho : PE X o to) (ha : PA X (e :: es) t) (h1 : attributeBase o "pop" X.env (eval o X.env) = eval o X.env) (h2 : ((backTo pos (starEach (e :: es) X.env)).all (fun x => !x.1) && (backToKw pos (keywordEach [] X.env)).all (fun x => x.1.isSome) && decide ((e :: es).length + ([] : List Keyword).length + (if ([] : List Keyword).isEmpty then 0 else 1) < 30)) = true) (h3 : (apos.endLine == pos.line) = true)
  (hs : starEach (e :: es) X.env = (false, eval e X.env) :: starEach es X.env) (hp : (backTo pos (starEach es X.env)).any (·.1) = false) : PE X (.Call (.Attribute o "pop" apos) (e :: es) [] pos) (tBM X.K "list" zPop to t) := pe_bm PySem.F.plainAttrs_list PySem.F.slot_list_pop PySem.F.type_list_pop Yci ho ha h1 h2 h3 hs hp
theorem Ygi (ho : PE X o to) (ha : PA X (e :: es) t) (h1 : attributeBase o "join" X.env (eval o X.env) = eval o X.env) (h2 : ((backTo pos (starEach (e :: es) X.env)).all (fun x => !x.1) && (backToKw pos (keywordEach [] X.env)).all (fun x => x.1.isSome) && decide ((e :: es).length + ([] : List Keyword).length + (if ([] : List Keyword).isEmpty then 0 else 1) < 30)) = true) (h3 : (apos.endLine == pos.line) = true)
  (hs : starEach (e :: es) X.env = (false, eval e X.env) :: starEach es X.env) (hp : (backTo pos (starEach es X.env)).any (·.1) = false) : PE X (.Call (.Attribute o "join" apos) (e :: es) [] pos) (tBM X.K "str" (Z3s X.K) to t) := pe_bm PySem.F.plainAttrs_str PySem.F.slot_str_join PySem.F.type_str_join Z89 ho ha h1 h2 h3 hs hp
theorem Ydi (ho : PE X o to) (ha : PA X (e :: es) t) (h1 : attributeBase o "split" X.env (eval o X.env) = eval o X.env) (h2 : ((backTo pos (starEach (e :: es) X.env)).all (fun x => !x.1) && (backToKw pos (keywordEach [] X.env)).all (fun x => x.1.isSome) && decide ((e :: es).length + ([] : List Keyword).length + (if ([] : List Keyword).isEmpty then 0 else 1) < 30)) = true) (h3 : (apos.endLine == pos.line) = true)
  (hs : starEach (e :: es) X.env = (false, eval e X.env) :: starEach es X.env) (hp : (backTo pos (starEach es X.env)).any (·.1) = false) : PE X (.Call (.Attribute o "split" apos) (e :: es) [] pos) (tBM X.K "str" Zwt to t) := pe_bm PySem.F.plainAttrs_str PySem.F.slot_str_split PySem.F.type_str_split Z4o ho ha h1 h2 h3 hs hp
theorem kRg1 {tg : Expr} {u : Value} [h : KNb X.mg "range" u] (ha : PA X [a] ta) (hg : L2.Gl X "range") (hs : starEach [a] X.env = [(false, eval a X.env)]) : PI X tg (.Call (.Name "range" p) [a] [] pos) (iRng1 ta) := pi_range1 hg h.is ha hs
theorem Ygj {f1 : Expr} {td ty tx : TE} (ho : PE X o td) (he : PE X e ty) (hf : PE X f1 tx) (hr : Room k X.A) (m : M2 X o "get" apos e f1 pos) : PE X (.Call (.Attribute o "get" apos) [e, f1] [] pos) (tDGet2 td ty tx) := pe_dget2 (hu1 hr) ho he hf m
theorem Ygf {fe : Expr} {tf : TE} [M : KMk X.K c f] [F : KFs X.prog X.w X.K X.mg X.base cs g k f] (hf : PE X fe tf) (hr : Room j X.A) (hk : k + 1 ≤ j) (hx : Passes (L2.CX X.prog X.w) X E) (ha : PA X (e :: es) t)
  (ht : eval (.Call fe (e :: es) [] pos) X.env = (do callWith pos (← eval fe X.env) [] (backTo pos (starEach (e :: es) X.env)) (backToKw pos (keywordEach [] X.env))))
  (hs : starEach (e :: es) X.env = (false, eval e X.env) :: starEach es X.env) (hp : (backTo pos (starEach es X.env)).any (·.1) = false) : PE X (.Call fe (e :: es) [] pos) (Zhj (ga X.K c.str) (Zly 2 (spD X.K cs g)) E tf t) := Zxe hf M.mks F.ok (hr.mono hk) hx ha ht hs hp
theorem Ydn {fe : Expr} {tf : TE} [M : KMk X.K c f] [F : KFs X.prog X.w X.K X.mg X.base cs g k f] (hp : (backTo pos (starEach es X.env)).any (·.1) = true) (hf : PE X fe tf) (hr : Room j X.A) (hk : k + 1 ≤ j) (hx : Passes (L2.CX X.prog X.w) X E) (ha : PA X (e :: es) t)
  (ht : eval (.Call fe (e :: es) [] pos) X.env = (do callWith pos (← eval fe X.env) [] (backTo pos (starEach (e :: es) X.env)) (backToKw pos (keywordEach [] X.env))))
  (hs : starEach (e :: es) X.env = (false, eval e X.env) :: starEach es X.env) : PE X (.Call fe (e :: es) [] pos) (Zhj (ga X.K c.str) (Zly 2 (spD X.K cs g)) E tf t) := Z09 hf M.mks F.ok (hr.mono hk) hx ha ht hs hp
theorem Ygg {fe : Expr} {tf : TE} [M : KMk X.K c f] [F : KFn X.prog X.w X.K X.mg X.base cs g k none f fd ps] (hf : PE X fe tf) (hr : Room j X.A) (hk : k + 1 ≤ j) (hx : Passes (L2.CX X.prog X.w) X E) (ha : PA X (e :: es) t)
  (ht : eval (.Call fe (e :: es) [] pos) X.env = (do callWith pos (← eval fe X.env) [] (backTo pos (starEach (e :: es) X.env)) (backToKw pos (keywordEach [] X.env))))
  (hs : starEach (e :: es) X.env = (false, eval e X.env) :: starEach es X.env) (hp : (backTo pos (starEach es X.env)).any (·.1) = false) : PE X (.Call fe (e :: es) [] pos) (Zhj (ga X.K c.str) (fun vs => spD X.K cs g (vs ++ [])) E tf t) := Zxe hf M.mks (FnOk.raw F.ok F.bi .nil) (hr.mono hk) hx ha ht hs hp
theorem Z9q {kvs : List (List Nat × Int)} {y : Str} [T : KTb X.K X.w kvs y] : OpR X (compareOp .NotIn) (Zqt kvs (ga X.K y)) := Z1c T.tb
theorem kIxT {kvs : List (List Nat × Int)} {y : Str} [T : KTb X.K X.w kvs y] : IxR X (Cl.rIxT kvs (ga X.K y)) := ix_T T.tb
theorem kSet {pos' : Pos} {i : Nat} (he : PE X e te) (hN : X.N.Nodup) (hi : X.N[i]? = some x) (hx : locB X.env.scope x = true) (hs : swapsWith e (some (.Name x pos')) pos.line X.env = pure false) (hf : fnB X x = true) : PS X (.Assign [.Name x pos'] e pos) (tAsg te (gName i)) := ps_set hN hi (Z1o hx) he hs (Z2k hf)
theorem kGn {i : Nat} (hN : X.N.Nodup) (hi : X.N[i]? = some x) (hx : locB X.env.scope x = true) (hf : fnB X x = true) : PG X (.Name x pos) (gName i) := pg_name hN hi (Z1o hx) (Z2k hf)
theorem kAug {pos' : Pos} {i : Nat} (he : PE X e te) (hN : X.N.Nodup) (hi : X.N[i]? = some x) (hx : locB X.env.scope x = true) (hf : fnB X x = true) : PS X (.AugAssign (.Name x pos') .Add e pos) (tAug i te (ipI fun i j => i + j)) := ps_aug hN hi (Z1o hx) he ip_add (Z2k hf)
end
section
variable {S : Sc} {c0 : CS} {M0 : Mem} {K : PySem.W.Frag} {cs : List Cn} {Ed : DX} {E : XK}
theorem kIsi {tab : Kd → Option Bool} {tv : PV} [h : KIs K cs tab tv] : SimR ⟨K, cs, c0, M0⟩ (zIsi K) (uIsi tab tv) := h.si
theorem kMem {k : Cn} (h : (cs.contains k) = true) : k ∈ (Sc.mk K cs c0 M0).cs := List.contains_iff_mem.mp h
theorem Z6k {i : Int} : SimE S (tC (.int i)) (dC (.int i)) := Zp4 fun _ => rfl
theorem Z6i {z : List Nat} : SimE S (tC (sv z)) (dC (.str z)) := Zp4 fun _ => rfl
theorem Z6m {b : Bool} : SimE S (tC (.bl b)) (dC (.bl b)) := Zp4 fun _ => rfl
theorem Z6j : SimE S (tC .non) (dC .non) := Zp4 fun _ => rfl
theorem Z6h {n : String} : SimE S (tC (.ty n)) (dC (.ty n)) := Zp4 fun _ => rfl
theorem Z6l {c : Cn} : SimE S (tC (.ref (ga S.K c.str))) (dC (.cls c)) := Zp4 fun _ => rfl
theorem rlN : ∀ F, RpL K cs F [] [] := fun _ => rfl
theorem exS {X : Cx} {b : List Stmt} {d : DS} {t : TS} (h1 : SimS S t d) (h2 : PSs X b t) : ∃ t, SimS S t d ∧ PSs X b t := ⟨t, h1, h2⟩
theorem gsE {t d} (h : SimE S t d) : SimE S t d := h
theorem gsS {t d} (h : SimS S t d) : SimS S t d := h
theorem gsT {t d} (h : SimT S t d) : SimT S t d := h
theorem gsA {t d} (h : SimA S t d) : SimA S t d := h
theorem gsO {t d} (h : SimO S t d) : SimO S t d := h
theorem gsR {t d} (h : SimR S t d) : SimR S t d := h
theorem gsM {t d} (h : SimM S t d) : SimM S t d := h
theorem gPo {c M} (h : PoX S c M Ed E) : PoX S c M Ed E := h
end
theorem gVis {sc : Scope} {x : Str} (h : Vis sc x) : Vis sc x := h
theorem gLoc {sc : Scope} {x : Str} (h : L2.Loc sc x) : L2.Loc sc x := h
theorem gGl {X : Cx} {x : Str} (h : X.env.kindOf x = some .globalImplicit) : L2.Gl X x := h
theorem Ygr {k : Nat} {A : Around} (h : Room k A) : Room k A := h
theorem gLe {j k : Nat} (h : j ≤ k) : j ≤ k := h
theorem gPas {CX : CXT} {X : Cx} {E : XK} (h : Passes CX X E) : Passes CX X E := h
theorem gNe {x y : Str} (h : x ≠ y) : x ≠ y := h
theorem gTak {X : Cx} {W : WX} (h : L2.Takes X W) : L2.Takes X W := h
theorem gAll {p : Shared → Hp → Addr → List (Str × Addr) → List Addr → Prop} (h : ∀ s H C cl fp, p s H C cl fp) : ∀ s H C cl fp, p s H C cl fp := h
theorem gPO {M : Model} {A : Around} {env : Env} {xe : Value → Shared → Prop} (h : PassesOwn M A env xe) : PassesOwn M A env xe := h
theorem gNL {α : Type} {a : α} {l : List α} : a :: l ≠ [] := L1 _ _
theorem kPw {X : Cx} {op : BoolOp} {es : List Expr} {pos : Pos} {t : TT} (h : PW X (.BoolOp op es pos) t) : L2.PT X (.BoolOp op es pos) t := h.pt
theorem gFa {α : Sort _} {β : Sort _} {a b : α → β} (h : ∀ x, a x = b x) : ∀ x, a x = b x := h
class KHm (g : Cn → Option DSp) (m : outParam Str) : Prop where
 hm : ∀ k, (g k).isSome = true → ∀ f ∈ k.flds, f.str ≠ m
theorem kHm {g : Cn → Option DSp} {m : Str} [h : KHm g m] : ∀ k, (g k).isSome = true → ∀ f ∈ k.flds, f.str ≠ m := h.hm
theorem gM2 {X : Cx} {o : Expr} {n : Str} {ap : Pos} {e f : Expr} {cp : Pos} (h : M2 X o n ap e f cp) : M2 X o n ap e f cp := h
theorem gLt {a b : Nat} (h : a < b) : a < b := h
theorem gOp {X : Cx} {f : Value → Value → Sem Value} {r : R2} (h : OpR X f r) : OpR X f r := h
theorem gCa {X : Cx} {f : Value} {r : List V → Hp → VK → Prop} (h : CallR X f r) : CallR X f r := h
theorem gRl {v : V} {u : Value} (h : RelV v u) : RelV v u := h
theorem gNd {l : List Str} (h : l.Nodup) : l.Nodup := h
theorem gPx {e : Expr} (h : PlainIx e) : PlainIx e := h
class SmE (P : Program) (w : World) (S : Sc) (t : outParam (TE)) (d : DE) : Prop where
 s : SimE S t d
class SmT (P : Program) (w : World) (S : Sc) (t : outParam (TT)) (d : DT) : Prop where
 s : SimT S t d
class SmA (P : Program) (w : World) (S : Sc) (t : outParam (TA)) (d : DA) : Prop where
 s : SimA S t d
class SmS (P : Program) (w : World) (S : Sc) (t : outParam (TS)) (d : DS) : Prop where
 s : SimS S t d
class SmO (P : Program) (w : World) (S : Sc) (t : outParam (R2)) (d : DR2) : Prop where
 s : SimO S t d
class SmR (P : Program) (w : World) (S : Sc) (t : outParam (List V → Hp → VK → Prop)) (d : DR) : Prop where
 s : SimR S t d
class SmM (P : Program) (w : World) (S : Sc) (t : outParam (V → List V → Hp → VK → Prop)) (d : DM) : Prop where
 s : SimM S t d
class SmG (P : Program) (w : World) (S : Sc) (t : outParam (TG)) (d : DG) : Prop where
 s : SimG S t d
class SmGs (P : Program) (w : World) (S : Sc) (t : outParam (TGs)) (d : DGs) : Prop where
 s : Z3k S t d
class SmI (P : Program) (w : World) (S : Sc) (t : outParam (TI)) (d : DI) : Prop where
 s : SimI S t d
class SmP (P : Program) (w : World) (S : Sc) (t : outParam (TO)) (d : DO) : Prop where
 s : SimP S t d
class SmL (P : Program) (w : World) (S : Sc) (t : outParam (V → Option Int → Option Int → Hp → VK → Prop)) (d : D → Option Int → Option Int → Mem → DQ → Prop) : Prop where
 s : SimL S t d
class SmU (P : Program) (w : World) (S : Sc) (t : outParam (V → Hp → VK → Prop)) (d : D → Mem → DQ → Prop) : Prop where
 s : SimU S t d
class SmPs (P : Program) (w : World) (S : Sc) (t : outParam (List (TE × TE))) (d : List (DE × DE)) : Prop where
 s : Zuo S t d
class SmEs (P : Program) (w : World) (S : Sc) (t : outParam (List TE)) (d : List DE) : Prop where
 s : Zup S t d
class SmX (S : Sc) (Ed : DX) (E : outParam XK) : Prop where
 s : PoX S S.c0 S.M0 Ed E
instance {S : Sc} : SmX S noX E0 := ⟨Zkr⟩
class KIn (k : Cn) (cs : List Cn) : Prop where
 s : k ∈ cs
class SmD (S : Sc) (dv : List PV) (vv : outParam (List V)) : Prop where
 s : ∀ F, RpL S.K S.cs F dv vv
class KOw (g : TG) (vs : List Nat) : Prop where
 s : GOwn g vs
class KFl (k : Cn) (l : outParam (List Fd)) : Prop where
 s : k.flds = l
section
variable {S : Sc} {dv : List PV} {vv : List V}
instance : SmD S [] [] := ⟨rlN⟩
end
instance {i : Nat} : KOw (gName i) [i] := ⟨Zty i⟩
theorem exSf {CX : CXT} {P : Program} {w : World} {K : PySem.W.Frag} {mg : Str → Option Value} {base : Heap} {N : List Str} {qual : Str} {scope : Scope} {f : Addr} {cdv : Value} {A : Around} {outer : List Env} {s : Shared} {H : Hp} {E : XK} {S : Sc} {b : List Stmt} {d : DS} {t : TS} [h : SmS P w S t d] (h2 : PSs (cxA CX P w K mg base N qual scope f cdv A outer s H E) b t) : ∃ t, SimS S t d ∧ PSs (cxA CX P w K mg base N qual scope f cdv A outer s H E) b t := ⟨t, h.s, h2⟩
instance : KFl .BadAlphabet [.part] := ⟨rfl⟩
instance : KFl .BadWord [.word] := ⟨rfl⟩
instance : KFl .BadStage [.what] := ⟨rfl⟩
instance {P : Program} {w : World} {S : Sc} {i : Nat}  : SmE P w S (tVar i) (dVar i) := ⟨Zah⟩
instance {P : Program} {w : World} {S : Sc} {i : Int}  : SmE P w S (tC (V.int i)) (dC (PV.int i)) := ⟨Z6k⟩
instance {P : Program} {w : World} {S : Sc} {ta tb : TE} {da db : DE} {r : R2} {d : DR2} [h0 : SmO P w S r d] [h1 : SmE P w S ta da] [h2 : SmE P w S tb db] : SmE P w S (tOp r ta tb) (dOp d da db) := ⟨Zhn h0.s h1.s h2.s⟩
instance {P : Program} {w : World} {S : Sc} {z : List Nat}  : SmE P w S (tC (sv z)) (dC (PV.str z)) := ⟨Z6i⟩
instance {P : Program} {w : World} {S : Sc} {tr : TA} {dr : DA} {r : List V → Hp → VK → Prop} {d : DR} [h0 : SmR P w S r d] [h1 : SmA P w S tr dr] : SmE P w S (tCB r tr) (dCB d dr) := ⟨Z0q h0.s h1.s⟩
instance {P : Program} {w : World} {S : Sc} {tr : TA} {dr : DA} [h0 : SmA P w S tr dr] : SmE P w S (tLst tr) (dLst dr) := ⟨Zu9 h0.s⟩
instance {P : Program} {w : World} {S : Sc} {tr : TA} {dr : DA} [h0 : SmA P w S tr dr] : SmE P w S (tTup tr) (dTup dr) := ⟨Zpr h0.s⟩
instance {P : Program} {w : World} {S : Sc} {ta : TE} {da : DE} {f : Fd} [h0 : KCs S.K S.cs] [h1 : SmE P w S ta da] : SmE P w S (tFld S.K ta f.str) (dFld da f) := ⟨Zp1 h0.ok h1.s⟩
instance {P : Program} {w : World} {S : Sc} {tr : TA} {dr : DA} {g : DSp} {E : XK} {Ed : DX} [h0 : SmX S Ed E] [h1 : SmA P w S tr dr] : SmE P w S (tCall (spD S.K S.cs g) [] E tr) (Zau g Ed dr) := ⟨Zw8 h0.s h1.s⟩
instance {P : Program} {w : World} {S : Sc} {ta tb : TE} {da db : DE} {tt : TT} {dt : DT} [h0 : SmT P w S tt dt] [h1 : SmE P w S ta da] [h2 : SmE P w S tb db] : SmE P w S (tIf tt ta tb) (dIf dt da db) := ⟨Z0o h0.s h1.s h2.s⟩
instance {P : Program} {w : World} {S : Sc} {r : V → List V → Hp → VK → Prop} {d : DM} {te : TE} {de : DE} {ta : TA} {da : DA} [h0 : SmM P w S r d] [h1 : SmE P w S te de] [h2 : SmA P w S ta da] : SmE P w S (tBM S.K "list" r te ta) (dBm tyL d de da) := ⟨Zvb h0.s h1.s h2.s⟩
instance {P : Program} {w : World} {S : Sc} {r : V → List V → Hp → VK → Prop} {d : DM} {te : TE} {de : DE} {ta : TA} {da : DA} [h0 : SmM P w S r d] [h1 : SmE P w S te de] [h2 : SmA P w S ta da] : SmE P w S (tBM S.K "str" r te ta) (dBm tyS d de da) := ⟨Zva h0.s h1.s h2.s⟩
instance {P : Program} {w : World} {S : Sc}  : SmE P w S (tC V.non) (dC PV.non) := ⟨Z6j⟩
instance {P : Program} {w : World} {S : Sc} {b : Bool}  : SmE P w S (tC (V.bl b)) (dC (PV.bl b)) := ⟨Z6m⟩
instance {P : Program} {w : World} {S : Sc} {ta : TE} {da : DE} {r : V → Option Int → Option Int → Hp → VK → Prop} {d : D → Option Int → Option Int → Mem → DQ → Prop} {tl th : TO} {dl dh : DO} [h0 : SmL P w S r d] [h1 : SmE P w S ta da] [h2 : SmP P w S tl dl] [h3 : SmP P w S th dh] : SmE P w S (tSl r ta tl th) (dSl d da dl dh) := ⟨Z0i h0.s h1.s h2.s h3.s⟩
instance {P : Program} {w : World} {S : Sc} {ta : TE} {da : DE} [h0 : SmE P w S ta da] : SmE P w S ta (dFrz da) := ⟨Zp0 h0.s⟩
instance {P : Program} {w : World} {S : Sc} {tr : TA} {dr : DA} {k : Cn} {g : DSp} {dv : List PV} {vv : List V} {E : XK} {Ed : DX} [h0 : KIn k S.cs] [h1 : SmD S dv vv] [h2 : SmX S Ed E] [h3 : SmA P w S tr dr] : SmE P w S (tMake (ga S.K k.str) (spD S.K S.cs g) vv E tr) (Zng k g dv Ed dr) := ⟨Zpt h0.s h1.s h2.s h3.s⟩
instance {P : Program} {w : World} {S : Sc} {te : TE} {de : DE} {tt : TT} {dt : DT} {ti : TI} {di : DI} {g : TG} {dg : DG} {vs : List Nat} [h0 : KOw g vs] [h1 : SmI P w S ti di] [h2 : SmG P w S g dg] [h3 : SmT P w S tt dt] [h4 : SmE P w S te de] : SmE P w S (tLc ti g tt te vs) (dLc di dg dt de vs) := ⟨Z6e h0.s h1.s h2.s h3.s h4.s⟩
instance {P : Program} {w : World} {S : Sc} {te : TE} {de : DE} {tt : TT} {dt : DT} {ti : TI} {di : DI} {g : TG} {dg : DG} {vs : List Nat} [h0 : KOw g vs] [h1 : SmI P w S ti di] [h2 : SmG P w S g dg] [h3 : SmT P w S tt dt] [h4 : SmE P w S te de] : SmE P w S (tLc ti g tt te vs) (dLcC di dg dt de vs) := ⟨Z0l h0.s h1.s h2.s h3.s h4.s⟩
instance {P : Program} {w : World} {S : Sc} {tr : TA} {dr : DA} [h0 : SmA P w S tr dr] : SmE P w S (tLst tr) (Zrr dr) := ⟨Zpu h0.s⟩
instance {P : Program} {w : World} {S : Sc} {ta tb : TE} {da db : DE} [h0 : SmE P w S ta da] [h1 : SmE P w S tb db] : SmE P w S (tAndV ta tb) (Zru da db) := ⟨Zp5 h0.s h1.s⟩
instance {P : Program} {w : World} {S : Sc} {ta : TE} {da : DE} {r : V → Hp → VK → Prop} {d : D → Mem → DQ → Prop} [h0 : SmU P w S r d] [h1 : SmE P w S ta da] : SmE P w S (tUn r ta) (dUn d da) := ⟨Z0h h0.s h1.s⟩
instance {P : Program} {w : World} {S : Sc} {r r' : R2} {d d' : DR2} {ta tb tc : TE} {da db dc : DE} [h0 : SmO P w S r d] [h1 : SmO P w S r' d'] [h2 : SmE P w S ta da] [h3 : SmE P w S tb db] [h4 : SmE P w S tc dc] : SmE P w S (tChain r r' ta tb tc) (Znh d d' da db dc) := ⟨Zl5 h0.s h1.s h2.s h3.s h4.s⟩
instance {P : Program} {w : World} {S : Sc} {tes : List TE} {des : List DE} [h0 : SmEs P w S tes des] : SmE P w S (tFs tes) (dFs des) := ⟨Z6g h0.s⟩
instance {P : Program} {w : World} {S : Sc} {ta : TE} {da : DE} [h0 : SmE P w S ta da] : SmE P w S (tFmt ta) (dFmt da) := ⟨Z0p h0.s⟩
instance {P : Program} {w : World} {S : Sc} {tps : List (TE × TE)} {dps : List (DE × DE)} [h0 : SmPs P w S tps dps] : SmE P w S (tDisp tps) (Z98 dps) := ⟨Zw7 h0.s⟩
instance {P : Program} {w : World} {S : Sc} {ta tb : TE} {da db : DE} {tc : TE} {dc : DE} [h0 : SmE P w S ta da] [h1 : SmE P w S tb db] [h2 : SmE P w S tc dc] : SmE P w S (tDGet2 ta tb tc) (Z2v da db dc) := ⟨Zsy h0.s h1.s h2.s⟩
instance {P : Program} {w : World} {S : Sc} {tf : TE} {df : DE} {tr : TA} {dr : DA} {k : Cn} {g : DSp} {E : XK} {Ed : DX} [h0 : KIn k S.cs] [h1 : SmX S Ed E] [h2 : SmE P w S tf df] [h3 : SmA P w S tr dr] : SmE P w S (Zhj (ga S.K k.str) (Zly 2 (spD S.K S.cs g)) E tf tr) (Zpc k g Ed df dr) := ⟨Zsv h0.s h1.s h2.s h3.s⟩
instance {P : Program} {w : World} {S : Sc} {k : Cn} {g : DSp} {E : XK} {Ed : DX} {tf : TE} {df : DE} {tr : TA} {dr : DA} [h0 : KIn k S.cs] [h1 : SmX S Ed E] [h2 : SmE P w S tf df] [h3 : SmA P w S tr dr] : SmE P w S (Zhj (ga S.K k.str) (fun vs ↦ spD S.K S.cs g (vs ++ [])) E tf tr) (Zue k g Ed df dr) := ⟨Zsx h0.s h1.s h2.s h3.s⟩
instance {P : Program} {w : World} {S : Sc} {n : String}  : SmE P w S (tC (V.ty n)) (dC (PV.ty n)) := ⟨Z6h⟩
instance {P : Program} {w : World} {S : Sc} {c : Cn}  : SmE P w S (tC (V.ref (ga S.K c.str))) (dC (PV.cls c)) := ⟨Z6l⟩
instance {S : Sc} {P : Program} {w : World} {ta : TA} {da : DA} [h0 : SmA P w S ta da] : SmE P w S (tCB (Zr9 P w S.K) (tCons (tCB (zSet P w) ta) tNil)) (Zrs da) := ⟨Zo1 h0.s⟩
instance {S : Sc} {P : Program} {w : World} {ta : TA} {da : DA} [h0 : SmA P w S ta da] : SmE P w S (tCB (Zhf P w S.K) (tCons (tCB (zSet P w) ta) tNil)) (Zro da) := ⟨Zox h0.s⟩
instance {P : Program} {w : World} {S : Sc} {tr tk : TA} {dr dk : DA} {k : Cn} {n m : Nat} {g : DSp} {E : XK} {Ed : DX} [h0 : KIn k S.cs] [h1 : SmX S Ed E] [h2 : SmA P w S tr dr] [h3 : SmA P w S tk dk] : SmE P w S (tMakeK (ga S.K k.str) n m (spD S.K S.cs g) (fun vs zs ↦ vs ++ zs) E tr tk) (Zud k n m g Ed dr dk) := ⟨Zsw h0.s h1.s h2.s h3.s⟩
instance {P : Program} {w : World} {S : Sc} {ts us : TS} {dss dus : DS} [h0 : SmS P w S ts dss] [h1 : SmS P w S us dus] : SmS P w S (tSeq ts us) (dSeq dss dus) := ⟨Zao h0.s h1.s⟩
instance {P : Program} {w : World} {S : Sc} {ta : TE} {da : DE} {g : TG} {dg : DG} [h0 : SmE P w S ta da] [h1 : SmG P w S g dg] : SmS P w S (tAsg ta g) (dAsg da dg) := ⟨Zl6 h0.s h1.s⟩
instance {P : Program} {w : World} {S : Sc} {tt : TT} {dt : DT} {ts us : TS} {dss dus : DS} [h0 : SmT P w S tt dt] [h1 : SmS P w S ts dss] [h2 : SmS P w S us dus] : SmS P w S (tIfS tt ts us) (dIfS dt dss dus) := ⟨Zen h0.s h1.s h2.s⟩
instance {P : Program} {w : World} {S : Sc} {ta : TE} {da : DE} [h0 : SmE P w S ta da] : SmS P w S (tRet ta) (dRet da) := ⟨Zgu h0.s⟩
instance {P : Program} {w : World} {S : Sc}  : SmS P w S tNext Zaf := ⟨Zde⟩
instance {P : Program} {w : World} {S : Sc} {ts us : TS} {dss dus : DS} [h0 : SmS P w S ts dss] [h1 : SmS P w S us dus] : SmS P w S (tSeq ts us) (dCut dss dus) := ⟨Zp3 h0.s h1.s⟩
instance {P : Program} {w : World} {S : Sc} {ta : TE} {da : DE} [h0 : SmE P w S ta da] : SmS P w S (tDrop ta) (Zf4 da) := ⟨Zdf h0.s⟩
instance {P : Program} {w : World} {S : Sc} {ts : TS} {dss : DS} {ti : TI} {di : DI} {g : TG} {dg : DG} [h0 : SmI P w S ti di] [h1 : SmG P w S g dg] [h2 : SmS P w S ts dss] : SmS P w S (tFor ti g ts) (dFor di dg dss) := ⟨Zl4 h0.s h1.s h2.s⟩
instance {P : Program} {w : World} {S : Sc} {ta tb : TE} {da db : DE} {f : Fd} [h0 : KCs S.K S.cs] [h1 : SmE P w S tb db] [h2 : SmE P w S ta da] : SmS P w S (sFld S.K tb ta f.str) (dStF db da f) := ⟨Zb7 h0.ok h1.s h2.s⟩
instance {P : Program} {w : World} {S : Sc} {tr : TA} {dr : DA} {k : Cn} {f : Fd} {E : XK} {Ed : DX} [h0 : KFl k [f]] [h1 : SmX S Ed E] [h2 : SmA P w S tr dr] : SmS P w S (Zem E (ga S.K k.str) (spX1 (ga S.K k.str) f.str) tr) (Zdc k Ed dr) := ⟨Zet h0.s h1.s h2.s⟩
instance {P : Program} {w : World} {S : Sc} {i : Nat} {t : TS} {d : DS} [h0 : SmS P w S t d] : SmS P w S t (dFz i d) := ⟨Z6f h0.s⟩
instance {P : Program} {w : World} {S : Sc} {i : Nat} {te : TE} {e : DE} [h0 : SmE P w S te e] : SmS P w S (tAug i te (ipI fun i j ↦ i + j)) (Z5o i e) := ⟨Zw9 h0.s⟩
instance {P : Program} {w : World} {S : Sc}  : SmS P w S Cl.tNever Znf := ⟨Zsu⟩
instance {P : Program} {w : World} {S : Sc} {ta : TE} {da : DE} [h0 : SmE P w S ta da] : SmT P w S (tTest ta) (Zae da) := ⟨Zf8 h0.s⟩
instance {P : Program} {w : World} {S : Sc} {ta : TE} {da : DE} [h0 : SmE P w S ta da] : SmT P w S (Cl.tTru S.K ta) (dTru da) := ⟨Zlz h0.s⟩
instance {P : Program} {w : World} {S : Sc} {tt : TT} {dt : DT} [h0 : SmT P w S tt dt] : SmT P w S (tNot tt) (dNot dt) := ⟨Zl0 h0.s⟩
instance {P : Program} {w : World} {S : Sc} {tt tu : TT} {dt du : DT} [h0 : SmT P w S tt dt] [h1 : SmT P w S tu du] : SmT P w S (tAnd tt tu) (dAnd dt du) := ⟨Zp6 h0.s h1.s⟩
instance {P : Program} {w : World} {S : Sc} {tt tu : TT} {dt du : DT} [h0 : SmT P w S tt dt] [h1 : SmT P w S tu du] : SmT P w S (tOr tt tu) (dOr dt du) := ⟨Zst h0.s h1.s⟩
instance {P : Program} {w : World} {S : Sc}  : SmT P w S tYes dYes := ⟨Zu8⟩
instance {P : Program} {w : World} {S : Sc} {ta : TE} {da : DE} {tr : TA} {dr : DA} [h0 : SmE P w S ta da] [h1 : SmA P w S tr dr] : SmA P w S (tCons ta tr) (Zaa da dr) := ⟨Zhp h0.s h1.s⟩
instance {P : Program} {w : World} {S : Sc}  : SmA P w S tNil dNil := ⟨Zl1⟩
instance {P : Program} {w : World} {S : Sc} {ta : TE} {da : DE} {tr : TA} {dr : DA} [h0 : SmE P w S ta da] [h1 : SmA P w S tr dr] : SmA P w S (StX.tStar S.K ta tr) (Zy0 da dr) := ⟨Zw4 h0.s h1.s⟩
instance {P : Program} {w : World} {S : Sc}  : SmO P w S (zIx S.K) uIx := ⟨Z8e⟩
instance {P : Program} {w : World} {S : Sc}  : SmO P w S zAdd uAdd := ⟨Zow⟩
instance {P : Program} {w : World} {S : Sc}  : SmO P w S (zEq S.K) uEq := ⟨Z35⟩
instance {P : Program} {w : World} {S : Sc}  : SmO P w S zSub uSub := ⟨Zz6⟩
instance {P : Program} {w : World} {S : Sc}  : SmO P w S zLt uLt := ⟨Z8c⟩
instance {P : Program} {w : World} {S : Sc}  : SmO P w S (zNe S.K) uNe := ⟨Z8b⟩
instance {P : Program} {w : World} {S : Sc}  : SmO P w S (zIn S.K) uIn := ⟨Z8g⟩
instance {P : Program} {w : World} {S : Sc}  : SmO P w S zIs uIs := ⟨Z8f⟩
instance {P : Program} {w : World} {S : Sc}  : SmO P w S Zop Zor := ⟨Zpq⟩
instance {P : Program} {w : World} {S : Sc}  : SmO P w S zGt uGt := ⟨Z34⟩
instance {P : Program} {w : World} {S : Sc}  : SmO P w S zLe uLe := ⟨Z8d⟩
instance {P : Program} {w : World} {S : Sc}  : SmO P w S zGe uGe := ⟨Z8h⟩
instance {P : Program} {w : World} {S : Sc}  : SmO P w S (Zr7 S.K) Zhg := ⟨Zpp⟩
instance {P : Program} {w : World} {S : Sc}  : SmO P w S zMul uMul := ⟨Zz8⟩
instance {P : Program} {w : World} {S : Sc}  : SmO P w S zMod uMod := ⟨Zz9⟩
instance {P : Program} {w : World} {S : Sc}  : SmO P w S zDiv uDiv := ⟨Z0c⟩
instance {P : Program} {w : World} {S : Sc} {k : Cn} {g : DSp}  : SmO P w S (rEqI (ga S.K k.str) (spD S.K S.cs g) E0) (uEqO k g) := ⟨Z6b⟩
instance {P : Program} {w : World} {S : Sc} {k : Cn} {g : DSp}  : SmO P w S (rNeI (ga S.K k.str) (spD S.K S.cs g) E0) (uNeO k g) := ⟨Zz7⟩
instance {P : Program} {w : World} {S : Sc}  : SmO P w S zPow uPow := ⟨Z6a⟩
instance {S : Sc} {P : Program} {w : World}  : SmR P w S (Zr9 P w S.K) uLen := ⟨Zz1⟩
instance {P : Program} {w : World} {c0 : CS} {M0 : Mem} {K : W.Frag} {cs : List Cn} {tab : Kd → Option Bool} {tv : PV} [h : KIs K cs tab tv]  : SmR P w { K := K, cs := cs, c0 := c0, M0 := M0 } (zIsi K) (uIsi tab tv) := ⟨kIsi⟩
instance {P : Program} {w : World} {S : Sc}  : SmR P w S Z71 uInt := ⟨Zz2⟩
instance {P : Program} {w : World} {S : Sc}  : SmR P w S (Zr8 S.K) Zuz := ⟨Zu5⟩
instance {P : Program} {w : World} {S : Sc}  : SmR P w S (Zr8 S.K) Zww := ⟨Zpm⟩
instance {S : Sc} {P : Program} {w : World}  : SmR P w S (Zhf P w S.K) uSrt := ⟨Zzz⟩
instance {P : Program} {w : World} {S : Sc}  : SmR P w S Z7z uStr := ⟨Zzy⟩
instance {P : Program} {w : World} {S : Sc}  : SmR P w S (Z3t S.K) Zzk := ⟨Zz3⟩
instance {P : Program} {w : World} {S : Sc} {k : Cn} {g : DSp}  : SmR P w S (Z70 (ga S.K k.str) (spD S.K S.cs g) E0) (Zzj k g) := ⟨Zz0⟩
instance {P : Program} {w : World} {S : Sc}  : SmM P w S zApp uApp := ⟨Z0f⟩
instance {P : Program} {w : World} {S : Sc}  : SmM P w S (Z3s S.K) Zdn := ⟨Zu7⟩
instance {P : Program} {w : World} {S' : Sc}  : SmM P w S' Zwt Zwv := ⟨Zw3⟩
instance {P : Program} {w : World} {S : Sc}  : SmM P w S zPop uPop := ⟨Z6c⟩
instance {P : Program} {w : World} {S : Sc} {i : Nat}  : SmG P w S (gName i) (hName i) := ⟨Zho⟩
instance {P : Program} {w : World} {S : Sc} {g : TG} {dg : DG} {gs : TGs} {dgs : DGs} [h0 : SmG P w S g dg] [h1 : SmGs P w S gs dgs] : SmGs P w S (gCons g gs) (Zjp dg dgs) := ⟨Zl3 h0.s h1.s⟩
instance {P : Program} {w : World} {S : Sc}  : SmGs P w S gNil hNil := ⟨Zpz⟩
instance {P : Program} {w : World} {S : Sc} {n : Nat} {gs : TGs} {dgs : DGs} [h0 : SmGs P w S gs dgs] : SmG P w S (gTup S.K n gs) (hTup n dgs) := ⟨Zpx h0.s⟩
instance {P : Program} {w : World} {S : Sc} {tr : TA} {dr : DA} [h0 : SmA P w S tr dr] : SmI P w S (iRng1 tr) (Zjn dr) := ⟨Zl2 h0.s⟩
instance {P : Program} {w : World} {S : Sc} {ta : TE} {da : DE} [h0 : SmE P w S ta da] : SmI P w S (iList S.K ta) (jLst da) := ⟨Zpw h0.s⟩
instance {P : Program} {w : World} {S : Sc} {ta : TE} {da : DE} [h0 : SmE P w S ta da] : SmI P w S (iStr ta) (jStr da) := ⟨Zpv h0.s⟩
instance {P : Program} {w : World} {S : Sc} {ta : TE} {da : DE} [h0 : SmE P w S ta da] : SmI P w S (iTup S.K ta) (jTup da) := ⟨Zlc h0.s⟩
instance {P : Program} {w : World} {S : Sc} {ta : TE} {da : DE} [h0 : SmE P w S ta da] : SmP P w S (tPart ta) (Zej da) := ⟨Zps h0.s⟩
instance {P : Program} {w : World} {S : Sc}  : SmP P w S tNoPart Zci := ⟨Ziv⟩
instance {P : Program} {w : World} {S : Sc}  : SmL P w S (zSl S.K) uSl := ⟨Z8k⟩
instance {P : Program} {w : World} {S : Sc}  : SmL P w S (rSlT S.K) uSlT := ⟨Z6d⟩
instance {P : Program} {w : World} {S : Sc} {ta tb : TE} {da db : DE} [h0 : SmE P w S ta da] [h1 : SmE P w S tb db] : SmG P w S (gSub ta tb rSetL) (hSub da db) := ⟨Zpy h0.s h1.s⟩
instance {P : Program} {w : World} {S : Sc}  : SmU P w S zNeg uNeg := ⟨Zzv⟩
instance {P : Program} {w : World} {S : Sc} {kvs : List (List Nat × Int)} {y : Str} {ta : TE} {da : DE} [k : KTb S.K w kvs y] [h : SmE P w S ta da] : SmE P w S (tOp (Zqt kvs (ga S.K y)) ta (tC (.ref (ga S.K y)))) (dUn (Zuy kvs) da) := ⟨Zo0 h.s⟩
instance {P : Program} {w : World} {S : Sc} {kvs : List (List Nat × Int)} {y : Str} {tb : TE} {db : DE} [k : KTb S.K w kvs y] [h : SmE P w S tb db] : SmE P w S (tOp (rIxT kvs (ga S.K y)) (tC (.ref (ga S.K y))) tb) (dUn (Z74 kvs) db) := ⟨Zw5 h.s⟩
instance {P : Program} {w : World} {S : Sc} {b : Bool} : SmO P w S (Zyo S.K b) (Z73 b) := ⟨Z0a b⟩
instance {P : Program} {w : World} {S : Sc} {tb : TE} {db : DE} {tr : TA} {dr : DA} {m : Str} {g : Cn → Option DSp} {E : XK} {Ed : DX} {dv : List PV} {vv : List V} [h1 : SmD S dv vv] [h2 : SmX S Ed E] [h3 : KHm g m] [h4 : SmE P w S tb db] [h5 : SmA P w S tr dr] : SmE P w S (Zfn (okM S.K S.cs g) m vv E tb tr) (Zc4 g dv Ed db dr) := ⟨Zfc h1.s h2.s h3.hm h4.s h5.s⟩
instance {P : Program} {w : World} {S : Sc} : SmPs P w S [] [] := ⟨.nil⟩
instance {P : Program} {w : World} {S : Sc} {ta tb : TE} {da db : DE} {ts : List (TE × TE)} {ds : List (DE × DE)} [h1 : SmE P w S ta da] [h2 : SmE P w S tb db] [h3 : SmPs P w S ts ds] : SmPs P w S ((ta, tb) :: ts) ((da, db) :: ds) := ⟨.cons h1.s h2.s h3.s⟩
instance {P : Program} {w : World} {S : Sc} : SmEs P w S [] [] := ⟨.nil⟩
instance {P : Program} {w : World} {S : Sc} {ta : TE} {da : DE} {ts : List TE} {ds : List DE} [h1 : SmE P w S ta da] [h2 : SmEs P w S ts ds] : SmEs P w S (ta :: ts) (da :: ds) := ⟨.cons h1.s h2.s⟩
section
variable {S : Sc} {w : World} {ta tb : TE} {da db : DE}
def Z3x (b : Bool) : DR2 := fun x y M Q => ∃ a xs, x = .v a ∧ snap M 1 y = some (.lst xs) ∧ a.lay 59 = true ∧ PV.layL 59 xs = true ∧ Q (vB (b != xs.any fun z => eqvP z a)) M
theorem Z0b {b : Bool} : SimO S (Zyo S.K b) (Z3x b) := fun c M x y dx dy Q Qd ok rx ry q po => by
 obtain ⟨a, xs, rfl, hy, h1, h2, q⟩ := q
 have hx := Zxl h1
 have hl : (PV.lst xs).lay 60 = true := h2
 have hl' := Zxl hl
 refine ⟨pdat a, Zd6 xs, Rp.dp ok.rl.same a x hx.1 rx, Or.inl (Z8j ok 1 _ _ _ ry hy hl'.1), hx.2 (by decide), hl'.2 (by decide), po_v ok po (d := vB _) rfl ?_⟩
 rw [Zr1]
 exact q
theorem Ydb {b : Bool} {M : Mem} {Q : DQ} {a : PV} {i : Nat} {xs : List PV} (m : M[i]? = some (some (.lst (xs.map D.v)))) (h1 : a.lay 59 = true) (h2 : PV.layL 59 xs = true) (h : Q (vB (b != xs.any fun z => eqvP z a)) M) : Z3x b (.v a) (.cell i) M Q := ⟨a, xs, rfl, Ya9 m (Z0d xs), h1, h2, h⟩
end
def sM (rs : List (List Stp)) (p a : Nat) : Stp := (rs.getD p []).getD a none
def stI : Stp → Int
 | none => -1
 | some (q, _) => q
def stT (rs : List (List Stp)) : List (List Int) := rs.map fun r => r.map stI
def outM (rs : List (List Stp)) (es : List (Option (List Nat))) : Nat → List Nat → Option (List Nat)
 | p, [] => es.getD p none
 | p, a :: y => match sM rs p a with
  | none => none
  | some (q, t) => (outM rs es q.toNat y).map fun x => t ++ x
theorem Zm4 {α β : Type} (l : List α) (f : α → β) (i : Nat) (d : α) (e : β) (h : f d = e) : (l.map f).getD i e = f (l.getD i d) := by
 rw [Ql, Ql, Qn]
 cases l[i]? with
 | none => exact h.symm
 | some x => rfl
theorem Z78 (rs : List (List Stp)) (p a : Nat) : stp (stT rs) p a = stI (sM rs p a) := by
 unfold stp stT sM
 rw [Zm4 rs _ p [] [] rfl, Zm4 _ stI a none (-1) rfl]
theorem Zpl (rs : List (List Stp)) : (stT rs).length = rs.length := Qb ..
structure MTab (w : Nat) (rs : List (List Stp)) (es : List (Option (List Nat))) : Prop where
 tab : Tab w (stT rs)
 len : rs.length = es.length
 nn : ∀ p a q t, sM rs p a = some (q, t) → 0 ≤ q
theorem MTab.pos {w : Nat} {rs : List (List Stp)} {es : List (Option (List Nat))} (m : MTab w rs es) : 0 < rs.length := by rw [← Zpl]; exact m.tab.pos
theorem MTab.wid {w : Nat} {rs : List (List Stp)} {es : List (Option (List Nat))} (m : MTab w rs es) {p : Nat} (h : p < rs.length) : (rs.getD p []).length = w := by
 have := m.tab.row (p := p) (by rw [Zpl]; exact h)
 rw [stT, Zm4 rs _ p [] [] rfl, Qb] at this
 exact this
theorem MTab.lt {w : Nat} {rs : List (List Stp)} {es : List (Option (List Nat))} (m : MTab w rs es) {p a : Nat} {q : Int} {t : List Nat} (hp : p < rs.length) (ha : a < w) (h : sM rs p a = some (q, t)) : 0 ≤ q ∧ q.toNat < rs.length := by
 have h1 := m.tab.lt (p := p) (by rw [Zpl]; exact hp) ha
 rw [Z78, h, Zpl] at h1
 have h2 := m.nn p a q t h
 have h3 : q < rs.length := h1.2
 exact ⟨h2, by omega⟩
def Yep (w : Nat) (F : List Nat → Option (List Nat)) : Prop := ∀ c, ¬ ∀ y x, inW w y → F y = some x → x.head? = some c
structure MCan (w : Nat) (rs : List (List Stp)) (es : List (Option (List Nat))) : Prop where
 m : MTab w rs es
 use : ∀ i, i < rs.length → ∃ y x, inW w y ∧ outM rs es i y = some x
 ear : ∀ i, i < rs.length → Yep w (outM rs es i)
 dif : ∀ i j, i < rs.length → j < rs.length → (∀ y, inW w y → outM rs es i y = outM rs es j y) → i = j
 num : Zxc (stT rs) = List.range rs.length
theorem Zrg {α : Type} (le : α → α → Prop) (rf : ∀ x, le x x) (tr : ∀ x y z, le x y → le y z → le x z) (f : α → Nat → α) (hf : ∀ x p, le x (f x p)) : ∀ (l : List Nat) (x : α), le x (l.foldl f x)
 | [], x => rf x
 | p :: l, x => tr _ _ _ (hf x p) (Zrg le rf tr f hf l _)
theorem Zxx {α : Type} (le : α → α → Prop) (rf : ∀ x, le x x) (tr : ∀ x y z, le x y → le y z → le x z) (an : ∀ x y, le x y → le y x → x = y) (f : α → Nat → α) (hf : ∀ x p, le x (f x p)) : ∀ (l : List Nat) (x : α), l.foldl f x = x → ∀ p ∈ l, f x p = x
 | [], _, _, p, h => nomatch h
 | q :: l, x, e, p, h => by
  rw [Gs] at e
  have h1 := Zrg le rf tr f hf l (f x q)
  rw [e] at h1
  have e1 : f x q = x := an _ _ h1 (hf x q)
  rcases Qg.mp h with rfl | h
  ·exact e1
  ·rw [e1] at e
   exact Zxx le rf tr an f hf l x e p h
abbrev Txs := List (Option (List Nat))
def utOf (T : Txs) : Stp → Option (List Nat)
 | none => none
 | some (q, t) => (T.getD q.toNat none).map fun x => t ++ x
def Zzg (rs : List (List Stp)) (T : Txs) (p : Nat) : Txs := match T.getD p none with
 | some _ => T
 | none => match (rs.getD p []).findSome? (utOf T) with
  | none => T
  | some x => T.set p (some x)
def Zwu (rs : List (List Stp)) (T : Txs) : Txs := (List.range rs.length).foldl (Zzg rs) T
def IsUT (rs : List (List Stp)) (es T : Txs) : Prop := (∃ k, T = itr (Zwu rs) k es) ∧ Zwu rs T = T
def leT (T T' : Txs) : Prop := T.length = T'.length ∧ ∀ (p : Nat) (x : List Nat), T[p]? = some (some x) → T'[p]? = some (some x)
theorem Zzf (rs : List (List Stp)) (T : Txs) (p : Nat) : leT T (Zzg rs T p) := by
 unfold Zzg
 split
 ·exact ⟨rfl, fun _ _ h => h⟩
 ·rename_i hn
  split
  ·exact ⟨rfl, fun _ _ h => h⟩
  ·refine ⟨by rw [Lo], fun q x h => ?_⟩
   by_cases e : p = q
   ·subst e
    rw [Ql, h] at hn
    cases hn
   ·rw [Q4 e]; exact h
theorem Z6z (T : Txs) : leT T T := ⟨rfl, fun _ _ h => h⟩
theorem Z6y (A B C : Txs) (h : leT A B) (g : leT B C) : leT A C := ⟨h.1.trans g.1, fun p x e => g.2 p x (h.2 p x e)⟩
theorem Zzh (rs : List (List Stp)) (T : Txs) : leT T (Zwu rs T) := Zrg leT Z6z Z6y _ (Zzf rs) _ _
theorem Ztx (rs : List (List Stp)) (T : Txs) : ∀ k, leT T (itr (Zwu rs) k T)
 | 0 => Z6z T
 | k + 1 => Z6y _ _ _ (Ztx rs T k) (Zzh rs _)
section
variable {w : Nat} {rs : List (List Stp)} {es T : Txs}
theorem IsUT.len (h : IsUT rs es T) : T.length = es.length := by
 obtain ⟨⟨k, rfl⟩, _⟩ := h
 exact (Ztx rs es k).1.symm
end
def comm : List Nat → List Nat → List Nat
 | x :: a, y :: b => if x = y then x :: comm a b else []
 | _, _ => []
theorem Z20 : ∀ a b : List Nat, comm a b <+: a
 | [], b => Gj
 | x :: a, [] => Gj
 | x :: a, y :: b => by
  rw [comm]
  split
  ·exact List.prefix_cons_inj x |>.mpr (Z20 a b)
  ·exact Gj
theorem Z7o : ∀ a b : List Nat, comm a b <+: b
 | [], b => Gj
 | x :: a, [] => Gj
 | x :: a, y :: b => by
  rw [comm]
  split
  ·rename_i e; subst e; exact List.prefix_cons_inj x |>.mpr (Z7o a b)
  ·exact Gj
def shS (e : List (List Nat)) (sh : List Nat) : Stp → List Nat
 | none => sh
 | some (q, t) => comm sh (t ++ e.getD q.toNat [])
def sh0 (F : Txs) (e : List (List Nat)) (p : Nat) : List Nat := match F.getD p none with
 | none => e.getD p []
 | some u => comm (e.getD p []) u
def shared (K : List (List Stp)) (F : Txs) (e : List (List Nat)) (p : Nat) : List Nat := (K.getD p []).foldl (shS e) (sh0 F e p)
def Zm8 (K : List (List Stp)) (F : Txs) (e : List (List Nat)) (p : Nat) : List (List Nat) := e.set p (shared K F e p)
def Zrj (K : List (List Stp)) (F : Txs) (e : List (List Nat)) : List (List Nat) := (List.range K.length).foldl (Zm8 K F) e
def Z52 (K : List (List Stp)) (F : Txs) (e0 e : List (List Nat)) : Prop := (∃ k, e = itr (Zrj K F) k e0) ∧ Zrj K F e = e
def leE (e e' : List (List Nat)) : Prop := e.length = e'.length ∧ ∀ p : Nat, e'.getD p [] <+: e.getD p []
theorem Z1v (e : List (List Nat)) : leE e e := ⟨rfl, fun _ => Gx⟩
theorem Z1u (a b c : List (List Nat)) (h : leE a b) (g : leE b c) : leE a c := ⟨h.1.trans g.1, fun p => (g.2 p).trans (h.2 p)⟩
theorem Z4t (a b : List (List Nat)) (h : leE a b) (g : leE b a) : a = b := by
 apply List.ext_getElem h.1
 intro p h1 h2
 have := h.2 p
 have g' := g.2 p
 rw [Ql, Ql, Qf h1, Qf h2] at this g'
 exact List.IsPrefix.eq_of_length g' (Nat.le_antisymm g'.length_le this.length_le)
theorem Z0u (e : List (List Nat)) : ∀ (l : List Stp) (sh : List Nat), l.foldl (shS e) sh <+: sh ∧ ∀ q t, some (q, t) ∈ l → l.foldl (shS e) sh <+: t ++ e.getD q.toNat []
 | [], sh => ⟨Gx, fun _ _ h => nomatch h⟩
 | s :: l, sh => by
  have ih := Z0u e l (shS e sh s)
  rw [Gs]
  have h1 : shS e sh s <+: sh := by
   cases s with
   | none => exact Gx
   | some z => exact Z20 _ _
  refine ⟨ih.1.trans h1, fun q t h => ?_⟩
  rcases Qg.mp h with rfl | h
  ·exact ih.1.trans (Z7o _ _)
  ·exact ih.2 q t h
theorem Z8p (F : Txs) (e : List (List Nat)) (p : Nat) : sh0 F e p <+: e.getD p [] := by
 unfold sh0
 split
 ·exact Gx
 ·exact Z20 _ _
theorem Zxw {α : Type} (l : List α) (p q : Nat) (x d : α) : (l.set p x).getD q d = if p = q ∧ q < l.length then x else l.getD q d := by
 rw [Ql, Ql]
 by_cases h : p = q
 ·subst h
  by_cases hl : p < l.length
  ·rw [Qs hl, if_pos ⟨rfl, hl⟩]; rfl
  ·rw [if_neg fun c => hl c.2, Hm (by rw [Lo]; omega), Hm (by omega)]
 ·rw [Q4 h, if_neg fun c => h c.1]
theorem Zpa (K : List (List Stp)) (F : Txs) (e : List (List Nat)) (p : Nat) : leE e (Zm8 K F e p) := by
 refine ⟨by unfold Zm8; rw [Lo], fun q => ?_⟩
 unfold Zm8
 rw [Zxw]
 split
 ·rename_i c
  rw [← c.1]
  exact (Z0u e _ _).1.trans (Z8p F e p)
 ·exact Gx
theorem Zys (K : List (List Stp)) (F : Txs) (e : List (List Nat)) : leE e (Zrj K F e) := Zrg leE Z1v Z1u _ (Zpa K F) _ _
theorem Zo8 (K : List (List Stp)) (F : Txs) (e : List (List Nat)) : ∀ k, leE e (itr (Zrj K F) k e)
 | 0 => Z1v e
 | k + 1 => Z1u _ _ _ (Zo8 K F e k) (Zys K F _)
section
variable {w : Nat} {K : List (List Stp)} {F : Txs} {e0 e : List (List Nat)}
theorem Z52.len (h : Z52 K F e0 e) : e.length = e0.length := by
 obtain ⟨⟨k, rfl⟩, _⟩ := h
 exact (Zo8 K F e0 k).1.symm
theorem Z52.at (h : Z52 K F e0 e) {p : Nat} (hp : p < K.length) (hl : e0.length = K.length) : shared K F e p = e.getD p [] := by
 have := Zxx leE Z1v Z1u Z4t _ (Zpa K F) _ e h.2 p (H6.mpr hp)
 have := congrArg (fun l : List (List Nat) => l.getD p []) this
 unfold Zm8 at this
 rw [Zxw, if_pos ⟨rfl, by rw [h.len, hl]; exact hp⟩] at this
 exact this
end
theorem Z4n {w : Nat} : ∀ y, inW w y → outM [List.replicate w none] [none] 0 y = none
 | [], _ => rfl
 | a :: y, hy => by
  have ha := hy a Qo
  have : sM [List.replicate w none] 0 a = none := by
   show (List.replicate w none).getD a none = none
   rw [Ql, L7, if_pos ha]
   rfl
  rw [outM, this]
structure Yem (rs : List (List Stp)) (n b : Nat) : Prop where
 le : rs.length ≤ 100000
 w : ∀ r ∈ rs, r.length ≤ 1000
 s : ∀ r ∈ rs, ∀ q t, some (q, t) ∈ r → 0 ≤ q ∧ q.toNat < n ∧ t.length ≤ b
theorem OkT.rows {ls f : List Nat} {rs : List (List Stp)} {es : Txs} {b : Nat} (ok : OkT ls f rs es b) (hl : ls.length ≤ 60) (hn : rs.length ≤ 100000) : Yem rs rs.length b := ⟨hn, fun r hr => by rw [ok.w r hr]; omega, fun r hr q t h => by obtain ⟨h1, h2, _, h4⟩ := ok.s r hr q t h; exact ⟨h1, by omega, h4⟩⟩
section
variable {σ : Type} {w : Nat} {δ : σ → Nat → Option (σ × List Nat)} {fin : σ → Option (List Nat)} {s0 : σ} {ps : List σ} {rows : List (List Stp)}
def outX (δ : σ → Nat → Option (σ × List Nat)) (fin : σ → Option (List Nat)) : σ → List Nat → Option (List Nat)
 | s, [] => fin s
 | s, a :: y => match δ s a with
  | none => none
  | some (s', t) => (outX δ fin s' y).map fun x => t ++ x
def runX (δ : σ → Nat → Option (σ × List Nat)) : σ → List Nat → Option σ
 | s, [] => some s
 | s, a :: y => match δ s a with
  | none => none
  | some (s', _) => runX δ s' y
def Yaw (δ : σ → Nat → Option (σ × List Nat)) (ps : List σ) (s : σ) (a : Nat) (v : Stp) : Prop := (δ s a = none ∧ v = none) ∨ ∃ s' t, ∃ j : Nat, δ s a = some (s', t) ∧ ps[j]? = some s' ∧ v = some ((j : Int), t)
structure XpI (w : Nat) (δ : σ → Nat → Option (σ × List Nat)) (s0 : σ) (ps : List σ) (rows : List (List Stp)) : Prop where
 nd : ps.Nodup
 z : ps[0]? = some s0
 rch : ∀ s ∈ ps, ∃ y, inW w y ∧ runX δ s0 y = some s
 row : ∀ (i : Nat) (s : σ) (r : List Stp), ps[i]? = some s → rows[i]? = some r → r.length = w ∧ ∀ (a : Nat) (v : Stp), r[a]? = some v → Yaw δ ps s a v
theorem XpI.init : XpI w δ s0 [s0] [] := ⟨Hf.mpr ⟨(fun h => nomatch h), H5⟩, rfl, fun s h => by rw [Qj.mp h]; exact ⟨[], (fun _ h => nomatch h), rfl⟩, fun i s r _ h => by simp at h⟩
theorem XpI.push (I : XpI w δ s0 ps rows) {s : σ} {r : List Stp} (hs : ps[rows.length]? = some s) (hl : r.length = w) (hc : ∀ (a : Nat) (v : Stp), r[a]? = some v → Yaw δ ps s a v) : XpI w δ s0 ps (rows ++ [r]) where
 nd := I.nd
 z := I.z
 rch := I.rch
 row := fun i x r' hx hr' => by
  rcases G4 i rows.length with h | h
  ·rw [Qy h] at hr'
   exact I.row i x r' hx hr'
  ·have hi := (Qa.mp hr').1
   rw [Qc, Hn] at hi
   have e : i = rows.length := by omega
   subst e
   rw [Qi] at hr'
   cases hr'
   rw [hs] at hx
   cases hx
   exact ⟨hl, hc⟩
theorem XpI.at (I : XpI w δ s0 ps rows) (hl : rows.length = ps.length) {i : Nat} {s : σ} (hs : ps[i]? = some s) {a : Nat} (ha : a < w) : (rows.getD i []).length = w ∧ Yaw δ ps s a (sM rows i a) := by
 have hi : i < rows.length := by rw [hl]; exact (Qa.mp hs).1
 have hr := Qf hi
 obtain ⟨h1, h2⟩ := I.row i s _ hs hr
 have hg : rows.getD i [] = rows[i] := by rw [Ql, hr]; rfl
 refine ⟨by rw [hg]; exact h1, h2 a _ ?_⟩
 unfold sM
 rw [hg, Ql, Qf (by omega)]
 rfl
theorem XpI.out (I : XpI w δ s0 ps rows) (hl : rows.length = ps.length) : ∀ (y : List Nat) (i : Nat) (s : σ), inW w y → ps[i]? = some s → outM rows (ps.map fin) i y = outX δ fin s y
 | [], i, s, _, hs => by
  show (ps.map fin).getD i none = fin s
  rw [Ql, Qn, hs]
  rfl
 | a :: y, i, s, hy, hs => by
  have ha : a < w := hy a Qo
  have hy' : inW w y := fun b hb => hy b (Qk _ hb)
  rw [outM, outX]
  rcases (I.at hl hs ha).2 with ⟨e1, e2⟩ | ⟨s', t, j, e1, hj, e2⟩
  ·rw [e1, e2]
  ·rw [e1, e2]
   show (outM rows (ps.map fin) ((j : Int)).toNat y).map _ = (outX δ fin s' y).map _
   rw [Ha, I.out hl y j s' hy' hj]
end
def IsLF (w : Nat) (F : List Nat → Option (List Nat)) (f : List Nat) (rs : List (List Stp)) (es : Txs) : Prop := (f = [] ∧ rs = [List.replicate w none] ∧ es = [none] ∧ ∀ y, inW w y → F y = none) ∨ (MCan w rs es ∧ ∀ y, inW w y → (outM rs es 0 y).map (fun x => f ++ x) = F y)
theorem IsLF.out {w : Nat} {F : List Nat → Option (List Nat)} {f : List Nat} {rs : List (List Stp)} {es : Txs} (h : IsLF w F f rs es) {y : List Nat} (hy : inW w y) : (outM rs es 0 y).map (fun x => f ++ x) = F y := by
 rcases h with ⟨rfl, rfl, rfl, h4⟩ | ⟨_, h2⟩
 ·rw [Z4n y hy, h4 y hy]; rfl
 ·exact h2 y hy
def Stg.can (ls : List Nat) : Stg → Sta → Prop
 | .drop _ _ a _ l, s => s.n ≤ a ∧ (s.n < a → s.w = []) ∧ (l = false → s.w = []) ∧ s.w.length ≤ 1 ∧ ∀ c ∈ s.w, c ∈ 45 :: ls
 | .once _ _, s => s.n = 0 ∧ s.w.length ≤ 1 ∧ ∀ c ∈ s.w, c ∈ 45 :: ls
 | _, s => s = {}
def Stg.all (ls : List Nat) : Stg → List Sta
 | .drop _ _ a _ _ => (List.range a).map (fun n => { n := n }) ++ ({ n := a } :: (45 :: ls).map fun c => { n := a, w := [c] })
 | .once _ _ => {} :: (45 :: ls).map fun c => { w := [c] }
 | _ => [{}]
inductive Sv where
 | num (n : Nat) | txt (w : List Nat) | pair (n : Nat) (w : List Nat)
 deriving DecidableEq
def Sv.pv : Sv → PV
 | .num n => .int n
 | .txt w => .str w
 | .pair n w => .tup [.int n, .str w]
theorem Sv.inj {a b : Sv} (h : a.pv = b.pv) : a = b := by
 cases a <;> cases b <;> simp only [Sv.pv] at h <;> first | (injection h with h; first | (rw [Int.ofNat_inj.mp h]; done) | (rw [h]; done) | (injection h with h1 h2; injection h1 with h1; injection h2 with h2 _; injection h2 with h2; rw [Int.ofNat_inj.mp h1, h2])) | cases h
instance {P : Program} {w : World} {S : Sc} {b : Bool}  : SmO P w S (Zyo S.K b) (Z3x b) := ⟨Z0b⟩
theorem RpS.Yfy {K : PySem.W.Frag} {cs : List Cn} {c c' : CS} {ds : DSt} {σ : L2.St} (h : RpS K cs c ds σ) (s : Same c.F c'.F) (p : c.ρ <+: c'.ρ) : RpS K cs c' ds σ :=
 ⟨h.1, fun i d e => let ⟨v, h1, h2⟩ := h.2 i d e; ⟨v, h1, h2.mono s p⟩⟩
def Zgp (g : DG) (t : DT) (it1 : DI) (g1 : DG) (t1 : DT) (e : DE) (vs1 : List Nat) (ds0 : DSt) (Q : List PV → Mem → Prop) : List D → List PV → Mem → Prop
 | [], acc, M => Q acc M
 | x :: xs, acc, M => g x ds0 M fun ds2 M2 => t ds2 M2 fun b M3 => if b = true then it1 ds2 M3 fun ys M4 => Zec g1 t1 e (Zb6 ds2 vs1) (fun acc2 M5 => Zgp g t it1 g1 t1 e vs1 ds0 Q xs acc2 M5) ys acc M4 else Zgp g t it1 g1 t1 e vs1 ds0 Q xs acc M3
def dLc2 (it : DI) (g : DG) (t : DT) (it1 : DI) (g1 : DG) (t1 : DT) (e : DE) (vs vs1 : List Nat) : DE := fun ds M Q => it ds M fun xs M1 => Zgp g t it1 g1 t1 e vs1 (Zb6 ds vs) (fun acc M2 => Q (vL acc) M2) xs [] M1
section
variable {S : Sc} {ti ti1 : TI} {di di1 : DI} {g g1 : TG} {dg dg1 : DG} {tt tt1 : TT} {dt dt1 : DT} {te : TE} {de : DE} {vs vs1 : List Nat}
theorem Z0m (own : GOwn g vs) (own1 : GOwn g1 vs1) (hi : SimI S ti di) (hg : SimG S g dg) (ht : SimT S tt dt) (hi1 : SimI S ti1 di1) (hg1 : SimG S g1 dg1) (ht1 : SimT S tt1 dt1) (he : SimE S te de) : SimE S (tLc2 ti g tt ti1 g1 tt1 te vs vs1) (dLc2 di dg dt di1 dg1 dt1 de vs vs1) := fun c M σ ds Q Qd ok rs q po =>
 hi c M σ ds _ _ ok rs q fun c1 M1 J xs s1 r1 wk q1 => by
  intro P hP
  have ok1 := ok.step s1 r1
  obtain ⟨r2, s2⟩ := r1.Zpf hP (.lst [])
  have rs1 := rs.step s1
  obtain ⟨hPF, hPρ⟩ := r1.fresh hP
  refine ⟨fun i m H' => ∃ c2 M2 acc vs2, c2.H = H' ∧ m = xs.length - i ∧ i ≤ xs.length ∧ Step c1 M1 c2 M2 ∧ Rel S.K S.cs c2 M2 ∧ c2.H P = some (.lst vs2) ∧ c2.F P = none ∧ ¬ Live c2.ρ M2 P ∧ RpL S.K S.cs c2.F acc vs2 ∧ Zgp dg dt di1 dg1 dt1 de vs1 (Zb6 ds vs) (fun acc M2 => Qd (vL acc) M2) (xs.drop i) acc M2,
   ⟨xs.length, ⟨c1.F, c1.ρ, upd c1.H P (.lst [])⟩, M1, [], [], rfl, rfl, Qr _, s2, r2, upd_same, hPF, r1.Z88 hP, (rfl : ([] : List V) = []), q1⟩, ?_⟩
  rintro i m H' ⟨c2, M2, acc, vs2, rfl, rfl, hi, s2, r2, hP1, hP2, hP3, ra, q2⟩
  obtain ⟨w1, w2⟩ := wk i c2 M2 s2.same s2.pre r2
  by_cases hlt : i < xs.length
  ·obtain ⟨g1', g2⟩ := w2 xs[i] (by simp [hlt])
   rw [Qw hlt] at q2
   refine Or.inr ⟨g1', fun H'' => ∃ c3 M3 acc3 vs3, c3.H = H'' ∧ Step c1 M1 c3 M3 ∧ Rel S.K S.cs c3 M3 ∧ c3.H P = some (.lst vs3) ∧ c3.F P = none ∧ ¬ Live c3.ρ M3 P ∧ RpL S.K S.cs c3.F acc3 vs3 ∧ Zgp dg dt di1 dg1 dt1 de vs1 (Zb6 ds vs) (fun acc M2 => Qd (vL acc) M2) (xs.drop (i + 1)) acc3 M3,
    fun H'' ⟨c3, M3, acc3, vs3, e, s3, r3, h1, h2, h3, h4, h5⟩ => ⟨xs.length - (i + 1), by omega, c3, M3, acc3, vs3, e, rfl, hlt, s3, r3, h1, h2, h3, h4, h5⟩, fun x H'' hy => own _ _ _ _ ?_⟩
   obtain ⟨c3, rfl, s3, r3, p3⟩ := g2 x H'' hy
   have ok2 := ok1.step s2 r2
   have rs3 : S.St c3 (Zb6 ds vs) (wipe σ vs) := Zln ((rs1.step s2).step s3) vs
   have okP3 := s3.frame P _ hP1 hP2 hP3
   refine hg c3 M2 (wipe σ vs) (Zb6 ds vs) _ _ _ _ (ok2.step s3 r3) rs3 p3 q2 fun c4 M4 σ4 ds4 s4 r4 p4 q4 => ?_
   have okP4 := s4.frame P _ okP3.1 okP3.2.1 okP3.2.2
   have ok4 := (ok2.step s3 r3).step s4 r4
   refine ht c4 M4 σ4 ds4 _ _ ok4 p4 q4 fun c5 M5 b s5 r5 q5 => ?_
   have okP5 := s5.frame P _ okP4.1 okP4.2.1 okP4.2.2
   have st5 : Step c1 M1 c5 M5 := s2.trans (s3.trans (s4.trans s5))
   have ra5 := RpL.same (K := S.K) (cs := S.cs) (s3.same.trans (s4.same.trans s5.same)) _ _ ra
   cases b with
   | false => exact ⟨c5, M5, acc, vs2, rfl, st5, r5, okP5.1, okP5.2.1, okP5.2.2, ra5, q5⟩
   | true =>
    have p5 := p4.step s5
    refine hi1 c5 M5 σ4 ds4 _ _ (ok4.step s5 r5) p5 q5 fun c6 M6 J1 ys s6 r6 wk1 q6 => ?_
    have okP6 := s6.frame P _ okP5.1 okP5.2.1 okP5.2.2
    have st6 := st5.trans s6
    have p6 := p5.step s6
    refine ⟨fun j k H' => ∃ c7 M7 acc7 vs7, c7.H = H' ∧ k = ys.length - j ∧ j ≤ ys.length ∧ Step c1 M1 c7 M7 ∧ (Same c6.F c7.F ∧ c6.ρ <+: c7.ρ) ∧ Rel S.K S.cs c7 M7 ∧ c7.H P = some (.lst vs7) ∧ c7.F P = none ∧ ¬ Live c7.ρ M7 P ∧ RpL S.K S.cs c7.F acc7 vs7 ∧ Zec dg1 dt1 de (Zb6 ds4 vs1) (fun acc2 M5 => Zgp dg dt di1 dg1 dt1 de vs1 (Zb6 ds vs) (fun acc M2 => Qd (vL acc) M2) (xs.drop (i + 1)) acc2 M5) (ys.drop j) acc7 M7,
     ⟨ys.length, c6, M6, acc, vs2, rfl, rfl, Qr _, st6, ⟨Same.refl _, Hk _⟩, r6, okP6.1, okP6.2.1, okP6.2.2, RpL.same s6.same _ _ ra5, q6⟩, ?_⟩
    rintro j k H' ⟨c7, M7, acc7, vs7, rfl, rfl, hj, s7, ⟨sm7, pr7⟩, r7, hQ1, hQ2, hQ3, ra7, q7⟩
    obtain ⟨v1, v2⟩ := wk1 j c7 M7 sm7 pr7 r7
    by_cases hjl : j < ys.length
    ·obtain ⟨g3, g4⟩ := v2 ys[j] (by simp [hjl])
     rw [Qw hjl] at q7
     refine Or.inr ⟨g3, fun H'' => ∃ c8 M8 acc8 vs8, c8.H = H'' ∧ Step c1 M1 c8 M8 ∧ (Same c6.F c8.F ∧ c6.ρ <+: c8.ρ) ∧ Rel S.K S.cs c8 M8 ∧ c8.H P = some (.lst vs8) ∧ c8.F P = none ∧ ¬ Live c8.ρ M8 P ∧ RpL S.K S.cs c8.F acc8 vs8 ∧ Zec dg1 dt1 de (Zb6 ds4 vs1) (fun acc2 M5 => Zgp dg dt di1 dg1 dt1 de vs1 (Zb6 ds vs) (fun acc M2 => Qd (vL acc) M2) (xs.drop (i + 1)) acc2 M5) (ys.drop (j + 1)) acc8 M8,
      fun H'' ⟨c8, M8, acc8, vs8, e, s8, sp, r8, h1, h2, h3, h4, h5⟩ => ⟨ys.length - (j + 1), by omega, c8, M8, acc8, vs8, e, rfl, hjl, s8, sp, r8, h1, h2, h3, h4, h5⟩, fun x H'' hy => own1 _ _ _ _ ?_⟩
     obtain ⟨c8, rfl, s8, r8, p8⟩ := g4 x H'' hy
     have ok7 := ok1.step s7 r7
     have rs8 : S.St c8 (Zb6 ds4 vs1) (wipe σ4 vs1) := Zln ((p6.Yfy sm7 pr7).step s8) vs1
     have okQ8 := s8.frame P _ hQ1 hQ2 hQ3
     refine hg1 c8 M7 (wipe σ4 vs1) (Zb6 ds4 vs1) _ _ _ _ (ok7.step s8 r8) rs8 p8 q7 fun c9 M9 σ9 ds9 s9 r9 p9 q9 => ?_
     have okQ9 := s9.frame P _ okQ8.1 okQ8.2.1 okQ8.2.2
     have ok9 := (ok7.step s8 r8).step s9 r9
     refine ht1 c9 M9 σ9 ds9 _ _ ok9 p9 q9 fun ca Ma b sa rA qa => ?_
     have okQa := sa.frame P _ okQ9.1 okQ9.2.1 okQ9.2.2
     have sta : Step c7 M7 ca Ma := s8.trans (s9.trans sa)
     have raa := RpL.same (K := S.K) (cs := S.cs) sta.same _ _ ra7
     cases b with
     | false => exact ⟨ca, Ma, acc7, vs7, rfl, s7.trans sta, ⟨sm7.trans sta.same, pr7.trans sta.pre⟩, rA, okQa.1, okQa.2.1, okQa.2.2, raa, qa⟩
     | true =>
      refine he ca Ma σ9 ds9 _ _ (ok9.step sa rA) (p9.step sa) qa fun cb Mb vb db sb rb pb ⟨z, eb, hl, qb⟩ => ?_
      subst eb
      have okQb := sb.frame P _ okQa.1 okQa.2.1 okQa.2.2
      have rab := RpL.same (K := S.K) (cs := S.cs) sb.same _ _ raa
      have stb := sta.trans sb
      refine ⟨vs7, okQb.1, by rw [← ra7.len]; exact hl, ⟨cb.F, cb.ρ, upd cb.H P (.lst (vs7 ++ [vb]))⟩, Mb, acc7 ++ [z], vs7 ++ [vb], rfl, ?_, ⟨sm7.trans stb.same, pr7.trans stb.pre⟩, rb.Zjy okQb.1 okQb.2.1 okQb.2.2 _, upd_same, okQb.2.1, okQb.2.2, (rab.a2.append (.cons pb .nil)).rpL, qb⟩
      have stc := s7.trans stb
      refine ⟨stc.same, stc.pre, fun a o h1 h2 h3 => ?_⟩
      obtain ⟨k1, k2, k3⟩ := stc.frame a o h1 h2 h3
      have hne : a ≠ P := fun z => by rw [z, hP] at h1; cases h1
      exact ⟨by show upd cb.H P (.lst (vs7 ++ [vb])) a = some o; rw [upd_ne hne]; exact k1, k2, k3⟩
    ·have e : ys.length = j := by omega
     rw [← e, Hl] at q7
     exact Or.inl ⟨v1 e, c7, M7, acc7, vs7, rfl, s7, r7, hQ1, hQ2, hQ3, ra7, q7⟩
  ·have e : xs.length = i := by omega
   rw [← e, Hl] at q2
   refine Or.inl ⟨w1 e, ?_⟩
   have r3 := r2.Zjz hP1 hP2 hP3
   have sF : Same c2.F (upd c2.F P (.lst vs2)) := Za8 hP2
   refine po ⟨upd c2.F P (.lst vs2), c2.ρ, c2.H⟩ M2 (.ref P) (vL acc) (s1.trans ⟨s2.same.trans sF, s2.pre, fun a o h1 h2 h3 => ?_⟩) r3 ⟨P, vs2, rfl, upd_same, RpL.same sF _ _ ra⟩ q2
   obtain ⟨k1, k2, k3⟩ := s2.frame a o h1 h2 h3
   have hne : a ≠ P := fun z => by rw [z, hP] at h1; cases h1
   exact ⟨k1, by show upd c2.F P (.lst vs2) a = none; rw [upd_ne hne]; exact k2, k3⟩
end
def Zyc (K : PySem.W.Frag) (fd : FuncData) (ps : List Str) (pv : Str) (n : Nat) (ks : List Str) (g : List Value → List Value → List Value) : Prop :=
 ∀ (M : Model) (A : Around) (s : Shared) (us rest ws : List Value) (E : Value → Shared → Prop) (Q : List (Str × Value) → Shared → Prop), K.In s.heap → us.length = n → ws.length = ks.length →
  wpAny M A (newTuple rest) (fun t s2 => Q (ps.zip (g us ws) ++ [(pv, t)]) s2) E s → wpAny M A (bindArgs fd ⟨us ++ rest, ks.zip ws⟩) Q E s
def spSK (n m : Nat) (gV : List V → List V → List V) (sp : Sp) (vs zs : List V) (H : Hp) (Q : VK) (E : XK) : Prop :=
 ∃ ws rest, vs = ws ++ rest ∧ ws.length = n ∧ zs.length = m ∧ rest.length ≤ sizeLine ∧ ∀ p, H p = none → sp (gV ws zs ++ [V.ref p]) (upd H p (.tup rest)) Q E
def FnRV (P : Program) (w : World) (K : PySem.W.Frag) (mg : Str → Option Value) (base : Heap) (CX : CXT) (k : Nat) (f : Addr) (n : Nat) (ks : List Str) (gV : List V → List V → List V) (sp : Sp) : Prop :=
 ∀ (A : Around) (outer : List Env) (s : Shared) (H : Hp) (us ws : List Value) (vs zs : List V) (Q : VK) (E : XK), Room k A → Env0 P w K mg base A outer s H → Vals vs us → Vals zs ws → spSK n ks.length gV sp vs zs H Q E →
  codeAny (model P w) A (.call (.ref f) ⟨us, ks.zip ws⟩) (CR CX outer P w H s Q E) s
theorem FunD.Yew {P : Program} {w : World} {K : PySem.W.Frag} {mg : Str → Option Value} {base : Heap} {x qual : Str} {params : Arguments} {body : List Stmt} {scope : Scope} {kws : List (Str × V)} {f : Addr} {fd : FuncData} {CX : CXT} {N ps : List Str} {pv : Str} {k n : Nat} {ks : List Str} {g : List Value → List Value → List Value} {gV : List V → List V → List V} {sp : Sp}
  (F : FunD K x qual params body scope [] kws f fd) (S : FnScope N (ps ++ [pv]) scope) (hCX : StX.CXUp CX) (hb : Zyc K fd ps pv n ks g)
  (hg : ∀ (vs zs : List V) (us ws : List Value), Vals vs us → Vals zs ws → Vals (gV vs zs) (g us ws)) (hl : ∀ vs zs : List V, vs.length = n → zs.length = ks.length → (gV vs zs).length = ps.length)
  (hbody : ∀ (cdv : Value) (A : Around) (outer : List Env) (s : Shared) (H : Hp) (vs : List V) (Q : VK) (E : XK), Room k (A.deeper (envOfC qual scope s.heap.objs.size f cdv)) → sp vs H Q E →
   ∃ t, PSs (cxOf CX P w K mg base N qual scope f cdv A outer s H E) body t ∧ t { nx := fun _ H' => Q .non H', rt := Q } (L2.start N vs) H) : FnRV P w K mg base CX (k + 1) f n ks gV sp := by
 obtain ⟨oc, od, dV, kV, doc, pm, an, cdv, ct, osl, rfl, lk, hcd, hD, hK⟩ := F.ex
 intro A outer s H us ws vs zs Q E hr e0 r rz hsp
 obtain ⟨wv, rest, ev, h1, h2, hz, hq⟩ := hsp
 subst ev
 obtain ⟨u1, u2, eu, r1, r2⟩ := StX.vals_split r
 subst eu
 have hn : H s.heap.objs.size = none := e0.hok.fresh (Qu _)
 have hl1 : u1.length = n := by rw [← r1.length]; exact h1
 have hl2 : u2.length ≤ sizeLine := by rw [← r2.length]; exact hz
 have hl3 : ws.length = ks.length := by rw [← rz.length]; exact h2
 have rg := hg _ _ _ _ r1 rz
 have lg := hl _ _ h1 h2
 have KX : K.In s.heap := e0.mod.kin.keeps fun b o e => (e0.bs b o e).1
 refine StX.run_bnd lk hcd S hr e0 (G := fun xs H2 => ∃ p, H p = none ∧ xs = gV wv zs ++ [V.ref p] ∧ H2 = upd H p (.tup rest)) (fun A' Ex Q' h => ?_) fun s2 H2 xs ⟨p, hp, ex, eH⟩ hr' => ?_
 ·refine hb _ A' s u1 u2 ws Ex Q' KX hl1 hl3 (wpAny_newTuple ?_ hl2)
  have new : ObjOk P w (upd H s.heap.objs.size (.tup rest)) (s.heap.push ({ cls := .type "tuple", data := .seq u2.toArray } : Obj)) s.heap.objs.size (.tup rest) := ⟨hz, u2, r2, ⟨_, Heap.get?_push_size _ rfl, rfl, _, rfl⟩⟩
  have un := StX.un_laid (fs := frs outer) (s := s) (o := ({ cls := .type "tuple", data := .seq u2.toArray } : Obj)) (u := .tup rest) hn
  have z := h _ _ (gV wv zs ++ [V.ref s.heap.objs.size]) (g u1 ws ++ [Value.ref s.heap.objs.size]) (StX.env0_laid e0 new) un rfl (fun e s' => hCX outer s H _ _ E e s' un (fun b o q => Heap.get?_push_of_some _ q) rfl) (rg.append (.cons rfl .nil))
   (by rw [Qc, Qc, lg] <;> rfl) ⟨_, hn, rfl, rfl⟩
  rw [List.zip_append (by rw [← rg.length, lg])] at z
  exact z
 ·subst ex eH
  exact hbody cdv A outer s2 _ _ Q E hr' (hq p hp)
section
variable {K : PySem.W.Frag} {x qual : Str} {params : Arguments} {body : List Stmt} {scope : Scope} {kws : List (Str × V)} {f : Addr} {fd : FuncData} {ps : List Str} {pv : Str}
theorem FunD.Yal (F : FunD K x qual params body scope [] kws f fd) (n : Nat) (ks : List Str)
  (h : ∀ (kV doc pm : Value) (an : Option Addr) (cdv ct : Value) (us rest ws : List Value), us.length = n → ws.length = ks.length →
   bindArgs (PySem.W.fnOf x qual params body scope .none kV doc pm an cdv ct) ⟨us ++ rest, ks.zip ws⟩ = (newTuple rest >>= fun t => pure (ps.zip (us ++ ws) ++ [(pv, t)]))) :
  Zyc K fd ps pv n ks (fun us ws => us ++ ws) := by
 obtain ⟨oc, od, dV, kV, doc, pm, an, cdv, ct, osl, rfl, lk, hcd, hD, hK⟩ := F.ex
 rcases hD with ⟨_, rfl⟩ | ⟨e, _⟩
 ·intro M A s us rest ws E Q _ l1 l2 q
  rw [h kV doc pm an cdv ct us rest ws l1 l2]
  exact wpAny_bind (wpAny_mono q (fun t s2 z => wpAny_pure z) fun _ _ z => z)
 ·exact absurd rfl e
theorem FunD.Yam {kn : Str} {v : V} (F : FunD K x qual params body scope [] [(kn, v)] f fd) (n : Nat)
  (h : ∀ (D : Addr) (doc pm : Value) (an : Option Addr) (cdv ct : Value) (us rest : List Value) (d : Value), us.length = n →
   ∃ (β γ : Type) (k1 : Option Value → Sem β) (k2 : β → Sem γ) (k3 : γ → Sem (List (Str × Value))) (a : β), bindArgs (PySem.W.fnOf x qual params body scope .none (.ref D) doc pm an cdv ct) ⟨us ++ rest, []⟩ = ((nsGet D kn >>= k1) >>= k2) >>= k3 ∧ k1 (some d) = pure a ∧
    (k2 a >>= k3) = (newTuple rest >>= fun t => pure (ps.zip (us ++ [d]) ++ [(pv, t)]))) :
  ∃ d, RelV v d ∧ Zyc K fd ps pv n [] (fun us _ => us ++ [d]) := by
 obtain ⟨oc, od, dV, kV, doc, pm, an, cdv, ct, osl, rfl, lk, hcd, hD, hK⟩ := F.ex
 rcases hD with ⟨_, rfl⟩ | ⟨e, _⟩
 ·rcases hK with e | ⟨D, rfl, hq⟩
  ·cases e
  ·obtain ⟨ks, hl, rk, hks⟩ := kwd_vals hq
   cases rk with
   | @cons _ d _ _ rd rn =>
    cases rn
    refine ⟨d, rd, fun M A s us rest ws E Q KX l1 l2 q => ?_⟩
    have hws : ws = [] := List.eq_nil_of_length_eq_zero l2
    subst hws
    obtain ⟨β, γ, k1, k2, k3, a, e1, e2, e3⟩ := h D doc pm an cdv ct us rest d l1
    show wpAny M A (bindArgs _ ⟨us ++ rest, []⟩) Q E s
    have hn := hks (kn, d) (Qo ..)
    have lk1 : PySem.W.Looks M s.heap (nsGet D kn >>= k1) a := (PySem.W.looks_nsIn KX hn).andThen (PySem.W.Looks.of_pure e2)
    rw [e1, bind_assoc]
    refine wpAny_bind (lk1.here ?_)
    show wpAny M A (k2 a >>= k3) Q E s
    rw [e3]
    exact wpAny_bind (wpAny_mono q (fun t s2 z => wpAny_pure z) fun _ _ z => z)
 ·exact absurd rfl e
end
def Zlq (C : Addr) (n m : Nat) (gV : List V → List V → List V) (sp : Sp) (E : XK) (ta : TE) (t tk : TA) : TE := fun σ H Q => ta σ H fun x H1 => x = .ref C ∧ t σ H1 fun vs H2 => tk σ H2 fun zs H3 => spSK n m gV sp (.ref C :: vs) zs H3 Q E
section
variable {X : Cx} {CX : CXT} {k n : Nat} {ks : List Str} {gV : List V → List V → List V} {C p g : Addr} {mc : Value} {sp : Sp} {E : XK} {o e : Expr} {es : List Expr} {kws : List Keyword} {m : Str} {pos apos : Pos} {ta : TE} {t tk : TA} {pl : Sem Bool}
theorem Z8v {pins : List (Addr × Obj)} {σ : L2.St} {H : Hp} {s : Shared} {q : Addr} {Q : VK} {us ws : List Value} {vs zs : List V} (F : FnRV X.prog X.w X.K X.mg X.base CX k g n ks gV sp) (hr : Room k X.A) (hx : Passes CX X E) (I : Inv X ((q, PySem.W.methodObj (.ref g) (.ref C)) :: pins) σ H s)
  (r : Vals vs us) (rz : Vals zs ws) (h : spSK n ks.length gV sp (.ref C :: vs) zs H Q E) : wpAny (model X.prog X.w) X.A (call (.ref q) us (ks.zip ws)) (EP X pins σ Q) X.xe s := by
 have z : wpAny (model X.prog X.w) X.A (call (.ref q) us (ks.zip ws)) (EP X ((q, PySem.W.methodObj (.ref g) (.ref C)) :: pins) σ Q) X.xe s := by
  refine wpAny_call (PySem.W.method_call (pin_at I) (codeAny_mono (F X.A X.stack s H (.ref C :: us) ws (.ref C :: vs) zs Q E hr I.env0 (.cons rfl r) rz h) fun r s' hq => ?_))
  cases r with
  | error e => exact hx _ σ H s e s' I hq
  | ok fl =>
   cases fl with
   | ret u => exact I.after hq
   | next => exact False.elim hq
   | brk => exact False.elim hq
   | cont => exact False.elim hq
 exact thn z fun _ _ y => unpinE y
theorem Z1a (he : PE X o ta) (r : CRead X.K C mc) (c : CMet X.K C mc m p g) (F : FnRV X.prog X.w X.K X.mg X.base CX k g n ks gV sp) (hr : Room k X.A) (hx : Passes CX X E) (ha : PA X (e :: es) t) (hkw : PK X kws tk)
  (hall : (backToKw pos (keywordEach kws X.env)).all (·.1.isSome) = true := by rfl) (hks : (backToKw pos (keywordEach kws X.env)).filterMap (·.1) = ks := by rfl)
  (hst : starEach (e :: es) X.env = (false, eval e X.env) :: starEach es X.env := by rfl)
  (hpl : ((backTo pos (starEach (e :: es) X.env)).any (·.1) || (backToKw pos (keywordEach kws X.env)).any (·.1.isNone)) = false := by rfl)
  (ht : eval (.Call (.Attribute o m apos) (e :: es) kws pos) X.env = (do
   let ov ← eval o X.env
   standAt apos.atName
   let (f, first) ← holding [ov] (getMethod ov m pl)
   callWith pos f first (backTo pos (starEach (e :: es) X.env)) (backToKw pos (keywordEach kws X.env))) := by rfl) :
  PE X (.Call (.Attribute o m apos) (e :: es) kws pos) (Zlq C n ks.length gV sp E ta t tk) := by
 refine ⟨fun pins s σ H Q I h => ?_⟩
 refine PySem.W.methodCall_KW (pl := pl) (thn (he.run pins s σ H _ I h) fun u s1 ⟨x, H1, I1, rx, ex, q⟩ => ?_) ht
 subst ex
 obtain rfl : u = Value.ref C := rx
 refine getmethcm_ok I1 r c fun s2 I2 => ?_
 refine PySem.W.callWith_of (P := PySem.W.MethP X.K s1.heap.objs.size g (.ref C)) (first := []) hpl (PySem.W.keeps_M c.fi) (PyProof.Rows.evalArgs_kw2 hall (thn (ha.run pos _ s2 σ H1 _ I2 q) fun us s3 ⟨vs, H2, I3, rv, q2⟩ => ?_) hst)
 refine thn (hkw.run pos _ s3 σ H2 _ I3 q2) fun ws s4 ⟨zs, H3, I4, rz, q3⟩ => ⟨⟨pin_at I4, I4.kIn⟩, ?_⟩
 show wpAny _ _ (call (.ref s1.heap.objs.size) us (((backToKw pos (keywordEach kws X.env)).filterMap (·.1)).zip ws)) _ _ s4
 rw [hks]
 exact Z8v F hr hx I4 rv rz q3
end
def Zed (k : Cn) (n m : Nat) (gD : List D → List D → List D) (g : DSp) (Ed : DX) (o : DE) (a b : DA) : DE := fun ds M Q => o ds M fun x M1 => x = .v (.cls k) ∧ a ds M1 fun xs M2 => b ds M2 fun zs M3 =>
 ∃ ws rs, .v (.cls k) :: xs = ws ++ rs.map D.v ∧ ws.length = n ∧ zs.length = m ∧ rs.length ≤ sizeLine ∧ g (gD ws zs ++ [.v (.tup rs)]) M3 Q Ed
theorem A2.split {α β : Type} {R : α → β → Prop} : ∀ {as bs : List α} {vs : List β}, A2 R (as ++ bs) vs → ∃ v1 v2, vs = v1 ++ v2 ∧ A2 R as v1 ∧ A2 R bs v2
 | [], _, vs, h => ⟨[], vs, rfl, .nil, h⟩
 | _ :: as, bs, _, .cons a r => by
  obtain ⟨v1, v2, e, h1, h2⟩ := A2.split (as := as) r
  exact ⟨_ :: v1, v2, by rw [e]; rfl, .cons a h1, h2⟩
section
variable {S : Sc} {to : TE} {do_ : DE} {ta tb : TA} {da db : DA}
theorem Zo2 {k : Cn} {n m : Nat} {gD : List D → List D → List D} {gV : List V → List V → List V} {g : DSp} {E : XK} {Ed : DX} (px : PoX S S.c0 S.M0 Ed E)
  (hg : ∀ (c : CS) (ds es : List D) (vs zs : List V), S.Ld c ds vs → S.Ld c es zs → S.Ld c (gD ds es) (gV vs zs)) (ho : SimE S to do_) (ha : SimA S ta da) (hb : SimA S tb db) :
  SimE S (Zlq (ga S.K k.str) n m gV (spD S.K S.cs g) E to ta tb) (Zed k n m gD g Ed do_ da db) := fun c M σ ds Q Qd ok rs q po =>
 ho c M σ ds _ _ ok rs q fun c0 M0 v0 d0 s0 r0 p0 ⟨e0, q0⟩ => by
  subst e0
  have ok0 := ok.step s0 r0
  refine ⟨p0, ha c0 M0 σ ds _ _ ok0 (rs.step s0) q0 fun c1 M1 v1 d1 s1 r1 p1 q1 => ?_⟩
  have ok1 := ok0.step s1 r1
  refine hb c1 M1 σ ds _ _ ok1 ((rs.step s0).step s1) q1 fun c2 M2 v2 d2 s2 r2 p2 ⟨ws, ps, e, h1, h2, hz, q2⟩ => ?_
  have ok2 := ok1.step s2 r2
  have pc : S.Ld c2 (.v (.cls k) :: d1) (V.ref (ga S.K k.str) :: v1) := .cons (show RpD S.K S.cs c2.F c2.ρ (.v (.cls k)) _ from rfl) (Sc.Ld.step p1 s2)
  rw [e] at pc
  obtain ⟨u1, u2, eu, t1, t2⟩ := A2.split pc
  have hvl : u2.length ≤ sizeLine := by rw [← t2.len, Qb]; exact hz
  refine ⟨u1, u2, eu, by rw [← t1.len]; exact h1, by rw [← p2.len]; exact h2, hvl, fun p hp => ?_⟩
  obtain ⟨r3, s3⟩ := r2.lay hp (.tup u2)
  have pr2 : RpL S.K S.cs c2.F ps u2 := Zck t2 (Zby ps)
  have tg := hg _ _ _ _ _ t1 p2
  have tt : S.Vd ⟨upd c2.F p (.tup u2), c2.ρ, upd c2.H p (.tup u2)⟩ (.v (.tup ps)) (.ref p) := ⟨p, u2, rfl, .inl (.inl upd_same), RpL.same s3.same _ _ pr2⟩
  exact Zov (ok2.step s3 r3) ((Sc.Ld.step tg s3).append (.cons tt .nil)) q2 (po.step (s0.trans (s1.trans (s2.trans s3)))) px
end
def catD (a b : List D) : List D := a ++ b
def catV (a b : List V) : List V := a ++ b
def kwD (i : Int) (a _b : List D) : List D := a ++ [vI i]
def kwV (i : Int) (a _b : List V) : List V := a ++ [V.int i]
section
variable {X : Cx}
theorem Yaq {vs vs1 : List Nat} (h : (vs1.all fun i => vs.contains i) = true) : ∀ i ∈ vs1, i ∈ vs := fun i hi => by
 simpa using Q8.mp h i hi
theorem Z9p {i : Nat} {y : Str} {pos py spos : Pos} {elt tg iter tg1 iter1 : Expr} {ifs ifs1 : List Expr} {scope : Scope} {wi wi1 : TI} {gt gt1 : TG} {tt tt1 : TT} {te : TE} {vs vs1 : List Nat} (h2 : X.env.scope.names.lookup y = some .local) (hc : X.calm = true) (hN : X.N.Nodup) (hi : PI X tg iter wi) (h1 : X.N[i]? = some y) (hk : X.env.scope.kind = .function) (hl : (py.line == spos.line) = true)
  (hw : (scope.names.any fun x => match x with | (n, k) => n == y && (k == NameKind.local || k == NameKind.cell)) = false)
  (ok : blkC X.N X.env.scope scope (vs.map fun i => (X.N.getD i default, i)) = true) (hv : (vs1.all fun i => vs.contains i) = true)
  (hg : ∀ (s : Shared) (H : Hp) (C : Addr) (cl : List (Str × Addr)) (fp : List Addr), PG (X.blk s H scope (compEnvC scope cl C X.env) fp) tg gt) (ht : ∀ (s : Shared) (H : Hp) (C : Addr) (cl : List (Str × Addr)) (fp : List Addr), PTs (X.blk s H scope (compEnvC scope cl C X.env) fp) ifs tt)
  (hi1 : ∀ (s : Shared) (H : Hp) (C : Addr) (cl : List (Str × Addr)) (fp : List Addr), PI (X.blk s H scope (compEnvC scope cl C X.env) fp) tg1 iter1 wi1)
  (hg1 : ∀ (s : Shared) (H : Hp) (C : Addr) (cl : List (Str × Addr)) (fp : List Addr), PG (X.blk s H scope (compEnvC scope cl C X.env) fp) tg1 gt1) (ht1 : ∀ (s : Shared) (H : Hp) (C : Addr) (cl : List (Str × Addr)) (fp : List Addr), PTs (X.blk s H scope (compEnvC scope cl C X.env) fp) ifs1 tt1)
  (he : ∀ (s : Shared) (H : Hp) (C : Addr) (cl : List (Str × Addr)) (fp : List Addr), PE (X.blk s H scope (compEnvC scope cl C X.env) fp) elt te) (hs : ∀ x, foldedSetIterable iter X.env x = pure x) (hs1 : ∀ env x, foldedSetIterable iter1 env x = pure x) :
  PS X (.Assign [.Name y py] (.ListComp elt [⟨tg, iter, ifs, 0⟩, ⟨tg1, iter1, ifs1, 0⟩] scope spos) pos) (tAsg (tLc2 wi gt tt wi1 gt1 tt1 te vs vs1) (gName i)) := by
 have e : (vs.map fun i => ((X.N.getD i default, i) : Str × Nat)).map (·.2) = vs := by rw [Qq]; exact Te _
 have h := ps_setLc2 (pos := spos) (spos := pos) (py := py) (vs1 := vs1) hc hN h1 h2 (sw_true hk h2 hl hw) hi (blkOk_by ok) (by rw [e]; exact Yaq hv) hg ht hi1 hg1 ht1 he hs hs1
 rw [e] at h
 exact h
end
instance {P : Program} {w : World} {S : Sc} {vs vs1 : List Nat} {te : TE} {de : DE} {tt tt1 : TT} {dt dt1 : DT} {i i1 : TI} {di di1 : DI} {g g1 : TG} {dg dg1 : DG} [h0 : KOw g vs] [h0' : KOw g1 vs1] [h1 : SmI P w S i di] [h2 : SmG P w S g dg] [h3 : SmT P w S tt dt] [h4 : SmI P w S i1 di1] [h5 : SmG P w S g1 dg1] [h6 : SmT P w S tt1 dt1] [h7 : SmE P w S te de] : SmE P w S (tLc2 i g tt i1 g1 tt1 te vs vs1) (dLc2 di dg dt di1 dg1 dt1 de vs vs1) := ⟨Z0m h0.s h0'.s h1.s h2.s h3.s h4.s h5.s h6.s h7.s⟩
instance {P : Program} {w : World} {S : Sc} {to : TE} {do_ : DE} {ta tb : TA} {da db : DA} {k : Cn} {n m : Nat} {g : DSp} {E : XK} {Ed : DX} [h0 : SmX S Ed E] [h1 : SmE P w S to do_] [h2 : SmA P w S ta da] [h3 : SmA P w S tb db] : SmE P w S (Zlq (ga S.K k.str) n m catV (spD S.K S.cs g) E to ta tb) (Zed k n m catD g Ed do_ da db) :=
 ⟨Zo2 h0.s (fun _ _ _ _ _ a b => a.append b) h1.s h2.s h3.s⟩
instance {P : Program} {w : World} {S : Sc} {to : TE} {do_ : DE} {ta tb : TA} {da db : DA} {k : Cn} {n m : Nat} {i : Int} {g : DSp} {E : XK} {Ed : DX} [h0 : SmX S Ed E] [h1 : SmE P w S to do_] [h2 : SmA P w S ta da] [h3 : SmA P w S tb db] : SmE P w S (Zlq (ga S.K k.str) n m (kwV i) (spD S.K S.cs g) E to ta tb) (Zed k n m (kwD i) g Ed do_ da db) :=
 ⟨Zo2 h0.s (fun _ _ _ _ _ a _ => a.append (.cons rfl .nil)) h1.s h2.s h3.s⟩
theorem Zxv (i j : Nat) : GOwn (gName i) [i, j] := fun x σ H Q h => ⟨by
 show (((((σ.set j none).set i none).set i (some x)).set j none).set i none) = (σ.set j none).set i none
 rw [Q2]
 by_cases e : i = j
 ·subst e
  rw [Q2, Q2, Q2]
 ·rw [Tj _ _ (fun h => e h.symm), Q2, Tj _ _ e, Q2, Tj _ _ (fun h => e h.symm)], h⟩
instance {i j : Nat} : KOw (gName i) [i, j] := ⟨Zxv i j⟩
class KCi (K : PySem.W.Frag) (cs : List Cn) (gm : Cn → Option DSp) (g : outParam DSp) (f : outParam Addr) : Prop where
 ci : ∀ k ∈ cs, ∀ sp, gm k = some sp → sp = g ∧ StX.CallO K (ga K k.str) f
instance {P : Program} {w : World} {S : Sc} {to : TE} {do_ : DE} {ta : TA} {da : DA} {gm : Cn → Option DSp} {g : DSp} {f : Addr} {E : XK} {Ed : DX} [F : KCi S.K S.cs gm g f] [h0 : SmX S Ed E] [h1 : SmE P w S to do_] [h2 : SmA P w S ta da] : SmE P w S (Zwz S.K f (fun vs => spD S.K S.cs g (vs ++ [])) E to ta) (Zpd gm Ed do_ da) := ⟨Zsz F.ci h0.s h1.s h2.s⟩
section
variable {X : Cx} {e fe : Expr} {es : List Expr} {ta : TA} {tf : TE} {pos : Pos} {E : XK} {g : DSp} {k j : Nat} {cs : List Cn} {f : Addr} {fd : FuncData} {ps : List Str} {y : Option Str}
theorem Ydo [F : KFn X.prog X.w X.K X.mg X.base cs g k y f fd ps] (hf : PE X fe tf) (hr : Room j X.A) (hk : k ≤ j) (hx : Passes (L2.CX X.prog X.w) X E) (ha : PA X (e :: es) ta)
  (ht : eval (.Call fe (e :: es) [] pos) X.env = (do callWith pos (← eval fe X.env) [] (backTo pos (starEach (e :: es) X.env)) (backToKw pos (keywordEach [] X.env))))
  (he : starEach (e :: es) X.env = (false, eval e X.env) :: starEach es X.env) (hpl : (backTo pos (starEach es X.env)).any (·.1) = false) : PE X (.Call fe (e :: es) [] pos) (Zwz X.K f (fun vs => spD X.K cs g (vs ++ [])) E tf ta) :=
 Z4h hf kraw (hr.mono hk) hx ha ht he hpl
end
class KCmV (P : Program) (w : World) (K : PySem.W.Frag) (mg : Str → Option Value) (base : Heap) (cs : List Cn) (c : Cn) (g : DSp) (gV : List V → List V → List V) (m : outParam Str) (n : outParam Nat) (ks : outParam (List Str)) (k : outParam Nat) : Prop where
 ex : ∃ p f, CRead K (ga K c.str) (.type "type") ∧ CMet K (ga K c.str) (.type "type") m p f ∧ FnRV P w K mg base (L2.CX P w) k f n ks gV (spD K cs g)
section
variable {X : Cx} {e o : Expr} {es : List Expr} {t tk : TA} {to : TE} {pos apos : Pos} {E : XK} {g : DSp} {k j n : Nat} {m : Str} {cs : List Cn} {c : Cn} {gV : List V → List V → List V} {ks : List Str} {kws : List Keyword} {pl : Sem Bool}
theorem Z9r {nk : Nat} [F : KCmV X.prog X.w X.K X.mg X.base cs c g gV m n ks k] (hn : nk = ks.length) (ho : PE X o to) (hr : Room j X.A) (hk : k ≤ j) (hx : Passes (L2.CX X.prog X.w) X E) (ha : PA X (e :: es) t) (hkw : PK X kws tk)
  (hall : (backToKw pos (keywordEach kws X.env)).all (·.1.isSome) = true) (hks : (backToKw pos (keywordEach kws X.env)).filterMap (·.1) = ks)
  (hs : starEach (e :: es) X.env = (false, eval e X.env) :: starEach es X.env) (hp : ((backTo pos (starEach (e :: es) X.env)).any (·.1) || (backToKw pos (keywordEach kws X.env)).any (·.1.isNone)) = false)
  (ht : eval (.Call (.Attribute o m apos) (e :: es) kws pos) X.env = (do
   let ov ← eval o X.env
   standAt apos.atName
   let (f, first) ← holding [ov] (getMethod ov m pl)
   callWith pos f first (backTo pos (starEach (e :: es) X.env)) (backToKw pos (keywordEach kws X.env)))) : PE X (.Call (.Attribute o m apos) (e :: es) kws pos) (Zlq (ga X.K c.str) n nk gV (spD X.K cs g) E to t tk) := by
 subst hn
 obtain ⟨p, f, cr, cm, ok⟩ := F.ex
 exact Z1a ho cr cm ok (hr.mono hk) hx ha hkw hall hks hs hp ht
end
theorem gFa2 {α β : Sort _} {γ : Sort _} {a b : α → β → γ} (h : ∀ x y, a x y = b x y) : ∀ x y, a x y = b x y := h
theorem fnV {P : Program} {w : World} {K : PySem.W.Frag} {mg : Str → Option Value} {base : Heap} {cs : List Cn} {x qual : Str} {params : Arguments} {body : List Stmt} {scope : Scope} {kws : List (Str × V)} {f : Addr} {fd : FuncData} {N ps : List Str} {pv : Str} {k n : Nat} {ks : List Str} {gg : List Value → List Value → List Value} {gV : List V → List V → List V} {g : DSp} {r : DX → DS}
  (F : FunD K x qual params body scope [] kws f fd) (S : FnScope N (ps ++ [pv]) scope) (hb : Zyc K fd ps pv n ks gg)
  (hg : ∀ (vs zs : List V) (us ws : List Value), Vals vs us → Vals zs ws → Vals (gV vs zs) (gg us ws)) (hl : ∀ vs zs : List V, vs.length = n → zs.length = ks.length → (gV vs zs).length = ps.length)
  (ref : ∀ ds M Q E, g ds M Q E → r (Zbf M E) { nx := fun _ M' => Zab M Q (.v .non) M', rt := Zab M Q } (Zac N.length ds) M)
  (h : KB (L2.CX P w) P w K mg base cs N qual scope f k body r) : FnRV P w K mg base (L2.CX P w) (k + 1) f n ks gV (spD K cs g) := by
 refine FunD.Yew F S StX.cxUp hb hg hl (fun cdv A outer s H vs Q E hr hsp => ?_)
 obtain ⟨c, M, ds, Qd, Ed, rfl, rl, ra, hgd, hq, he⟩ := hsp
 have hq' : ∀ c' M' v d, Step c M c' M' → Rel K cs c' M' → RpD K cs c'.F c'.ρ d v → Zab M Qd d M' → Q v c'.H := fun c' M' v d s r p ⟨q1, q2, q3⟩ => by
  obtain ⟨r2, s2, e2⟩ := rl.cut r s q2
  exact hq ⟨c'.F, c'.ρ.take M.length, c'.H⟩ _ v d s2 r2 (p.low q1) q3
 have he' : ∀ c' M' cls d e, Step c M c' M' → Rel K cs c' M' → RpX K cs c' e cls d → Zbf M Ed e M' → E cls d c'.H := fun c' M' cls d e s r p ⟨q2, q3⟩ => by
  obtain ⟨r2, s2, e2⟩ := rl.cut r s q2
  exact he ⟨c'.F, c'.ρ.take M.length, c'.H⟩ _ cls d e s2 r2 p q3
 obtain ⟨t, hs, hp⟩ := h cdv A outer s c.H E c M (Zbf M Ed) S.nd hr he'
 exact ⟨t, hp, hs c M (L2.start N vs) (Zac N.length ds) _ { nx := fun _ M' => Zab M Qd (.v .non) M', rt := Zab M Qd } ⟨Step.refl _ _, rl⟩ (Zhl ra) (ref ds M Qd Ed hgd) ⟨fun c' M' σ' ds' s r _ q => hq' c' M' .non (.v .non) s r rfl q, fun c' M' v d s r p q => hq' c' M' v d s r p q, fun _ _ _ _ _ _ _ q => q.elim, fun _ _ _ _ _ _ _ q => q.elim⟩⟩
theorem fnV.catL {n m : Nat} {vs zs : List V} (h1 : vs.length = n) (h2 : zs.length = m) : (catV vs zs).length = n + m := by unfold catV; rw [Qc, h1, h2]
theorem fnV.kwL {n : Nat} {i : Int} {vs zs : List V} (h1 : vs.length = n) : (kwV i vs zs).length = n + 1 := by unfold kwV; rw [Qc, h1]; rfl
def lvl {α : Type} (k : List α) : Nat → List (List α)
 | 0 => [[]]
 | n + 1 => (lvl k n).flatMap fun row => k.map fun s => row ++ [s]
def lotR {α : Type} (k : List α) (d : Nat) : List (List α) := (List.range (d + 1)).flatMap (lvl k)
section
variable {α β : Type} {k : List α}
theorem Zg2 : ∀ {n : Nat} {x : List α}, x ∈ lvl k n → x.length = n
 | 0, x, h => by rw [Qj.mp h]; rfl
 | n + 1, x, h => by
  obtain ⟨r, hr, h⟩ := H7.mp h
  obtain ⟨s, _, rfl⟩ := Qz.mp h
  rw [Qc, Zg2 hr]
  rfl
theorem Z1j : ∀ {n : Nat} {x : List α}, x ∈ lvl k n → ∀ s ∈ x, s ∈ k
 | 0, x, h => by rw [Qj.mp h]; exact fun _ h => nomatch h
 | n + 1, x, h => by
  obtain ⟨r, hr, h⟩ := H7.mp h
  obtain ⟨s, hs, rfl⟩ := Qz.mp h
  intro t ht
  rcases Q1.mp ht with h | h
  ·exact Z1j hr t h
  ·rw [Qj.mp h]; exact hs
theorem Z1k (f : α → β) : ∀ n : Nat, (lvl k n).map (List.map f) = lvl (k.map f) n
 | 0 => rfl
 | n + 1 => by
  show ((lvl k n).flatMap _).map _ = (lvl (k.map f) n).flatMap _
  rw [← Z1k f n, Lc, List.flatMap_map]
  congr 1
  funext r
  rw [Qq, Qq]
  congr 1
  funext s
  show (r ++ [s]).map f = _
  rw [Qv]
  rfl
theorem Zd8 : ∀ n : Nat, (lvl k n).length = k.length ^ n
 | 0 => rfl
 | n + 1 => by
  show ((lvl k n).flatMap _).length = _
  rw [List.length_flatMap]
  simp only [Qb]
  rw [List.map_const', Tf, Zd8 n, Nat.pow_succ]
theorem Zjb {f : α → List β} : ∀ {l : List α}, l.Nodup → (∀ a ∈ l, (f a).Nodup) → (∀ a ∈ l, ∀ b ∈ l, ∀ y, y ∈ f a → y ∈ f b → a = b) → (l.flatMap f).Nodup
 | [], _, _, _ => H5
 | a :: l, nd, h1, h2 => by
  rw [G7, H9]
  have nd' := Hf.mp nd
  refine ⟨h1 a Qo, Zjb nd'.2 (fun b hb => h1 b (Qk _ hb)) (fun b hb c hc => h2 b (Qk _ hb) c (Qk _ hc)), fun y hy z hz e => ?_⟩
  subst e
  obtain ⟨b, hb, hz⟩ := H7.mp hz
  have := h2 a Qo b (Qk _ hb) y hy hz
  subst this
  exact nd'.1 hb
theorem Ztl (nd : k.Nodup) : ∀ n : Nat, (lvl k n).Nodup
 | 0 => by simp [lvl]
 | n + 1 => by
  refine Zjb (Ztl nd n) (fun r _ => ?_) (fun r _ r' _ y hy hy' => ?_)
  ·refine List.Pairwise.map _ (fun a b hab e => hab ?_) nd
   have := List.append_cancel_left e
   simpa using this
  ·obtain ⟨s, _, rfl⟩ := Qz.mp hy
   obtain ⟨s', _, e⟩ := Qz.mp hy'
   have := List.append_inj_left' e rfl
   exact this.symm
theorem Z1n (nd : k.Nodup) (d : Nat) : (lotR k d).Nodup := Zjb List.nodup_range (fun n _ => Ztl nd n) fun n _ m _ y hy hz => (Zg2 hy).symm.trans (Zg2 hz)
theorem Zje {d : Nat} {x : List α} (h : x ∈ lotR k d) : x.length ≤ d ∧ ∀ s ∈ x, s ∈ k := by
 obtain ⟨n, hn, h⟩ := H7.mp h
 have := H6.mp hn
 exact ⟨by rw [Zg2 h]; omega, Z1j h⟩
theorem Z9d (f : α → β) (d : Nat) : (lotR k d).map (List.map f) = lotR (k.map f) d := by
 unfold lotR
 rw [Lc]
 congr 1
 funext n
 exact Z1k f n
end
theorem Zzq {ls vw : List Nat} {s1 s2 : List Stg} (ok1 : Zc5 ls vw s1) (ok2 : Zc5 ls vw s2) (sm : ∀ c ∈ ls, c ∈ small) (h : Zbg s1 = Zbg s2) : s1.map Stg.text = s2.map Stg.text := by
 by_cases h1 : s1 = []
 ·subst h1
  rw [Zot (h.symm.trans rfl)]
 ·by_cases h2 : s2 = []
  ·subst h2
   exact absurd (Zot (h.trans rfl)) h1
  ·rw [← Zsg h1 ok1 sm, ← Zsg h2 ok2 sm, h]
theorem Z1m {ls vw : List Nat} {k : List Stg} {d : Nat} (oks : ∀ x ∈ lotR k d, Zc5 ls vw x) (sm : ∀ c ∈ ls, c ∈ small) (nd : (k.map Stg.text).Nodup) : ((lotR k d).map Zbg).Nodup := by
 have h := Z1n nd d
 rw [← Z9d] at h
 rw [List.Nodup, Gm] at h ⊢
 exact h.imp_of_mem fun ha hb hab e => hab (Zzq (oks _ ha) (oks _ hb) sm e)
abbrev lotP (al : PV) (rs : List (List Stg)) : PV := .obj .Lot [al, .lst (rs.map (Zcu al))]
def Zdh : DSp := fun ds M Q _ => ∃ ls vw sts, ds = [.v (alph ls vw), .v (.tup ((sts.map Stg.text).map PV.str))] ∧ Zc5 ls vw sts ∧ (∀ c ∈ ls, c ∈ small) ∧ sts.length ≤ 1000 ∧ Q (vL (sts.map (Stg.pv (alph ls vw)))) M
def Ze4 : DSp := fun ds M Q _ => ∃ n ls vw rs, ds = [.cell n, vL (rs.map (Zcu (alph ls vw)))] ∧ M[n]? = some (some (.obj .Lot [])) ∧ rs ≠ [] ∧ rs.length ≤ 1000 ∧ (∀ r ∈ rs, Zc5 ls vw r ∧ r.length ≤ 10) ∧ (rs.map Zbg).Nodup ∧
 Q (.v .non) (M.set n (some (.obj .Lot [.v (alph ls vw), vL (rs.map (Zcu (alph ls vw)))])))
def Za5 : DSp := fun ds M Q _ => ∃ ls vw sts, ∃ d : Nat, ds = [.v (.cls .Lot), .v (alph ls vw), vI d, .v (.tup ((sts.map Stg.text).map PV.str))] ∧ Zc5 ls vw sts ∧ (∀ c ∈ ls, c ∈ small) ∧ sts.length ≤ 1000 ∧ d ≤ 3 ∧ (sts.map Stg.text).Nodup ∧ (lotR sts d).length ≤ 200 ∧
 Q (.v (lotP (alph ls vw) (lotR sts d))) M
def Ze3 : DSp := fun ds M Q _ => ∃ al rs, ds = [.v (lotP al rs)] ∧ Q (vI rs.length) M
def Zar : DSp := fun ds M Q _ => ∃ al ls vw rs, ds = [.v (lotP al rs)] ∧ (∀ r ∈ rs, Zc5 ls vw r ∧ r.length ≤ 10) ∧ rs.length ≤ 1000 ∧ Q (.cell M.length) (M ++ [some (.lst (rs.map fun r => vS (Zbg r)))])
section
variable (ds : List D) (M : Mem) (Q : DQ) (E : DX)
theorem Zjf (h : Zdh ds M Q E) : ds.length = 2 := by obtain ⟨_, _, _, rfl, _⟩ := h; rfl
theorem Zoa (h : Ze4 ds M Q E) : ds.length = 2 := by obtain ⟨_, _, _, _, rfl, _⟩ := h; rfl
theorem Zq4 (h : Ze3 ds M Q E) : ds.length = 1 := by obtain ⟨_, _, rfl, _⟩ := h; rfl
theorem Zmw (h : Zar ds M Q E) : ds.length = 1 := by obtain ⟨_, _, _, _, rfl, _⟩ := h; rfl
end
section
variable {ds : DSt} {M : Mem} {te : DE} {P : List PV → Mem → Prop} {i j : Nat} {it1 : DI} {vs1 : List Nat}
theorem Zug {β : Type} (i1 : β → D) (f : β → PV) : ∀ (ys : List β) (acc : List PV), acc.length + ys.length ≤ sizeLine → (∀ y ∈ ys, ∀ Q : DQ, Q (.v (f y)) M → te (ds.set j (some (i1 y))) M Q) → P (acc ++ ys.map f) M → Zec (hName j) dYes te ds P (ys.map i1) acc M
 | [], acc, _, _, h => by rw [Gb, Qx] at h; exact h
 | y :: ys, acc, hl, ht, h => by
  rw [Qe] at hl
  refine Zo7 ?_
  refine Z1x ?_
  show te _ M _
  refine ht y Qo _ ⟨_, rfl, by omega, ?_⟩
  refine Zug i1 f ys _ (by rw [Qc]; simp only [Qe, Qh]; omega) (fun z hz => ht z (Qk _ hz)) ?_
  rw [Q6]
  exact h
theorem Zpe {α β : Type} (i0 : α → D) (i1 : β → D) (ys : List β) (f : α → β → PV) : ∀ (xs : List α) (acc : List PV), acc.length + xs.length * ys.length ≤ sizeLine →
  (∀ x ∈ xs, ∀ QI : List D → Mem → Prop, QI (ys.map i1) M → it1 (ds.set i (some (i0 x))) M QI) → (∀ x ∈ xs, ∀ y ∈ ys, ∀ Q : DQ, Q (.v (f x y)) M → te ((Zb6 (ds.set i (some (i0 x))) vs1).set j (some (i1 y))) M Q) →
  P (acc ++ xs.flatMap fun x => ys.map (f x)) M → Zgp (hName i) dYes it1 (hName j) dYes te vs1 ds P (xs.map i0) acc M
 | [], acc, _, _, _, h => by rw [L6, Qx] at h; exact h
 | x :: xs, acc, hl, h1, h2, h => by
  rw [Qe, Nat.succ_mul] at hl
  refine Zo7 ?_
  refine Z1x ?_
  show it1 _ M _
  refine h1 x Qo _ ?_
  refine Zug i1 (f x) ys acc (by omega) (fun y hy => h2 x Qo y hy) ?_
  refine Zpe i0 i1 ys f xs _ (by rw [Qc, Qb]; omega) (fun z hz => h1 z (Qk _ hz)) (fun z hz => h2 z (Qk _ hz)) ?_
  rw [Q6]
  rw [G7] at h
  exact h
end
theorem Yf5 {it : DI} {g : DG} {t : DT} {it1 : DI} {g1 : DG} {t1 : DT} {e : DE} {vs vs1 : List Nat} {ds : DSt} {M : Mem} {Q : DQ} (h : it ds M fun xs M1 => Zgp g t it1 g1 t1 e vs1 (Zb6 ds vs) (fun acc M2 => Q (vL acc) M2) xs [] M1) : dLc2 it g t it1 g1 t1 e vs vs1 ds M Q := h
instance {it : DI} {g : DG} {t : DT} {it1 : DI} {g1 : DG} {t1 : DT} {e : DE} {vs vs1 : List Nat} {ds : DSt} {M : Mem} {Q : DQ} : Wg (dLc2 it g t it1 g1 t1 e vs vs1 ds M Q) (it ds M fun xs M1 => Zgp g t it1 g1 t1 e vs1 (Zb6 ds vs) (fun acc M2 => Q (vL acc) M2) xs [] M1) := ⟨Yf5⟩
theorem Z45 {k : Cn} {n m : Nat} {gD : List D → List D → List D} {g : DSp} {Ed : DX} {o : DE} {a b : DA} {ds : DSt} {M : Mem} {Q : DQ} (h : o ds M fun x M1 => x = .v (.cls k) ∧ a ds M1 fun xs M2 => b ds M2 fun zs M3 =>
 ∃ ws rs, .v (.cls k) :: xs = ws ++ rs.map D.v ∧ ws.length = n ∧ zs.length = m ∧ rs.length ≤ sizeLine ∧ g (gD ws zs ++ [.v (.tup rs)]) M3 Q Ed) : Zed k n m gD g Ed o a b ds M Q := h
instance {k : Cn} {n m : Nat} {gD : List D → List D → List D} {g : DSp} {Ed : DX} {o : DE} {a b : DA} {ds : DSt} {M : Mem} {Q : DQ} : Wg (Zed k n m gD g Ed o a b ds M Q) (o ds M fun x M1 => x = .v (.cls k) ∧ a ds M1 fun xs M2 => b ds M2 fun zs M3 =>
 ∃ ws rs, .v (.cls k) :: xs = ws ++ rs.map D.v ∧ ws.length = n ∧ zs.length = m ∧ rs.length ≤ sizeLine ∧ g (gD ws zs ++ [.v (.tup rs)]) M3 Q Ed) := ⟨Z45⟩
def Zce : DS :=
 dSeq (dAsg (Zrr dNil) (hName 2)) (dSeq (dFor (jTup (dVar 1)) (hName 3) (Zf4 (dBm tyL uApp (dVar 2) (Zaa (Zau Zc2 noX (Zaa (dVar 0) (Zaa (dVar 3) dNil))) dNil)))) (dRet (dFrz (dVar 2))))
def Zew : DS :=
 dSeq (dIfS (dNot (dTru (dVar 1))) Znf Zaf) (dSeq (dAsg (dLc (jLst (dVar 1)) (hName 3) dYes (Zc4 (gm1 .Rule Zbq) [] noX (dVar 3) dNil) [3]) (hName 2)) (dSeq (dFor (Zjn (Zaa (dCB uLen (Zaa (dVar 1) dNil)) dNil)) (hName 4) (dIfS (dOr (Zae (dOp (uNeO .Alphabet Zaq) (dFld (dOp uIx (dVar 1) (dVar 4)) .alphabet) (dFld (dOp uIx (dVar 1) (dC (.int 0))) .alphabet))) (Zae (dOp uIn (dOp uIx (dVar 2) (dVar 4)) (dSl uSl (dVar 2) Zci (Zej (dVar 4)))))) Znf Zaf)) (dSeq (dStF (dVar 0) (dFld (dOp uIx (dVar 1) (dC (.int 0))) .alphabet) .alphabet) (dStF (dVar 0) (dCB Zuz (Zaa (dVar 1) dNil)) .rules))))
def Zev : DS :=
 dSeq (dIfS (dNot (Zae (Znh uLe uLe (dC (.int 0)) (dVar 2) (dC (.int 3))))) Znf Zaf) (dSeq (dAsg (Zau Zdh noX (Zaa (dVar 1) (Zaa (dVar 3) dNil))) (hName 4)) (dSeq (dFor (Zjn (Zaa (dCB uLen (Zaa (dVar 3) dNil)) dNil)) (hName 5) (dIfS (Zae (dOp uIn (dOp uIx (dVar 3) (dVar 5)) (dSl uSlT (dVar 3) Zci (Zej (dVar 5))))) Znf Zaf)) (dSeq (dAsg (dC (.int 1)) (hName 6)) (dSeq (dAsg (dC (.int 1)) (hName 7)) (dSeq (dFor (Zjn (Zaa (dVar 2) dNil)) (hName 8) (dSeq (dAsg (dOp uMul (dVar 7) (dCB uLen (Zaa (dVar 4) dNil))) (hName 7)) (Z5o 6 (dVar 7)))) (dSeq (dIfS (Zae (dOp uGt (dVar 6) (dC (.int 200)))) Znf Zaf) (dSeq (dAsg (dLst (Zaa (dLst dNil) dNil)) (hName 9)) (dSeq (dAsg (dLst (Zaa (Zpc .Rule Zcm noX (dC (.cls .Rule)) (Zaa (dVar 1) dNil)) dNil)) (hName 10)) (dSeq (dFor (Zjn (Zaa (dVar 2) dNil)) (hName 8) (dSeq (dAsg (dLc2 (jLst (dVar 9)) (hName 11) dYes (jLst (dVar 4)) (hName 12) dYes (dLst (Zy0 (dVar 11) (Zaa (dVar 12) dNil))) [11, 12] [12]) (hName 9)) (dAsg (dOp uAdd (dVar 10) (dLc (jLst (dVar 9)) (hName 11) dYes (Zpc .Rule Zcm noX (dC (.cls .Rule)) (Zaa (dVar 1) (Zy0 (dVar 11) dNil))) [11])) (hName 10)))) (dRet (Zue .Lot Ze4 noX (dVar 0) (Zaa (dVar 10) dNil))))))))))))
def Zfu : DS :=
 dRet (dCB uLen (Zaa (dFld (dVar 0) .rules) dNil))
def Zd1 : DS :=
 dRet (dLcC (jLst (dFld (dVar 0) .rules)) (hName 1) dYes (Zc4 (gm1 .Rule Zbq) [] noX (dVar 1) dNil) [1])
local macro_rules | `(tactic| walk_at "fz") => `(tactic| repeat with_reducible refine Wg.go ?_)
local macro_rules | `(tactic| walk_at "dw") => `(tactic| (((first | with_reducible refine Z7h (by with_unfolding_all exact rfl) ?_ | fail); walk_at "fz"); walk_at "dw"))
local macro_rules | `(tactic| walk_at "dw") => `(tactic| (((first | with_reducible refine k_enum ?_ | fail); walk_at "fz"); walk_at "dw"))
theorem Z07 {α : Type} {f : α → PV} {xs : List α} {i : Nat} {x : D} (h : ((xs.map f).map D.v)[i]? = some x) : ∃ y, xs[i]? = some y ∧ x = .v (f y) := by
 rw [Qq, Qn] at h
 cases hp : xs[i]? with
 | none => rw [hp] at h; cases h
 | some p => rw [hp] at h; cases h; exact ⟨p, rfl, rfl⟩
theorem Zvh (ds : List D) (M : Mem) (Q : DQ) (E : DX) (h : Ze3 ds M Q E) : Zfu { nx := fun _ M' => Zab M Q (.v .non) M', rt := Zab M Q } (Zac 1 ds) M := by
 obtain ⟨al, rs, rfl, q⟩ := h
 show Zfu _ [some (.v (lotP al rs))] M
 unfold Zfu
 walk_at "dz"
 rw [Qb]
 exact Zad q
theorem Zqn (ds : List D) (M : Mem) (Q : DQ) (E : DX) (h : Zar ds M Q E) : Zd1 { nx := fun _ M' => Q (.v .non) M', rt := Q } (Zac 2 ds) M := by
 obtain ⟨al, ls, vw, rs, rfl, ok, hl, q⟩ := h
 show Zd1 _ [some (.v (lotP al rs)), none] M
 unfold Zd1
 walk_at "dz"
 refine Z2z (fun i M' => M' = M ++ [some (.lst ((rs.take i).map fun r => vS (Zbg r)))]) rfl ?_ ?_
 ·rintro i x M1 N hx rfl hN
  obtain ⟨r, hr, rfl⟩ := Z07 hx
  have hi := (Qa.mp hr).1
  have hm := ok r (Qp hr)
  walk_at "dz"
  refine ⟨al, ls, vw, r, rfl, hm.1, hm.2, ?_⟩
  refine ⟨_, Qi .., by rw [Qb, Q5, sizeLine_eq]; omega, ?_⟩
  refine hN _ ?_
  rw [Zbe, Ht, hr, Gi, Qv]
  rfl
 ·rintro M1 rfl
  rw [Qb, Qb, Q9]
  exact q
theorem Zma (ds : List D) (M : Mem) (Q : DQ) (E : DX) (h : Zdh ds M Q E) : Zce { nx := fun _ M' => Zab M Q (.v .non) M', rt := Zab M Q } (Zac 5 ds) M := by
 obtain ⟨ls, vw, sts, rfl, ok, sm, hl, q⟩ := h
 show Zce _ [some (.v (alph ls vw)), some (.v (.tup ((sts.map Stg.text).map PV.str))), none, none, none] M
 unfold Zce
 walk_at "dz"
 refine Za9 (fun i ds M' => ∃ v3, M' = M ++ [some (.lst (((sts.take i).map (Stg.pv (alph ls vw))).map D.v))] ∧ ds = [some (.v (alph ls vw)), some (.v (.tup ((sts.map Stg.text).map PV.str))), some (.cell M.length), v3, none]) ⟨_, rfl, rfl⟩ ?_ ?_
 ·rintro i x ds M1 N hx ⟨v3, rfl, rfl⟩ hN
  rw [show (sts.map Stg.text).map PV.str = sts.map (fun s => PV.str s.text) from Qq ..] at hx
  obtain ⟨st, hst, rfl⟩ := Z07 hx
  have hi := (Qa.mp hst).1
  have hti : (((sts.take i).map (Stg.pv (alph ls vw))).map D.v).length = i := by
   rw [Qb, Qb, Q5]
   omega
  walk_at "dz"
  refine Zvr Zjd ?_
  walk_at "dz"
  refine Yee (ok st (Qp hst)) sm ?_
  walk_at "dz"
  refine Ztw (by rw [hti, sizeLine_eq]; omega) ?_
  refine hN _ _ ⟨_, ?_, rfl⟩
  rw [Ht, hst, Gi, Qv, Qv]
  rfl
 ·rintro ds M1 ⟨v3, rfl, rfl⟩
  have e : sts.take (((sts.map Stg.text).map PV.str).map D.v).length = sts := by
   rw [Qb, Qb, Qb]
   exact Q9
  rw [e]
  walk_at "dz"
  refine ⟨_, _, Zrf (Qi ..), ?_⟩
  rw [Zbe]
  exact Z72 q
theorem Yda {M : Mem} {Q : DQ} {z : List Nat} {zs : List (List Nat)} {xs : List PV} (e : xs = zs.map PV.str) (h : Q (vB (decide (z ∈ zs))) M) : uIn (vS z) (vT xs) M Q := by
 subst e
 refine Or.inr ⟨.str z, _, _, rfl, rfl, Zby _, rfl, ?_, ?_⟩
 ·rw [List.all_map]
  exact Q8.mpr fun _ _ => rfl
 ·rw [G5, show ((zs.map PV.str).any fun y => y.eqF (.str z)) = decide (z ∈ zs) by rw [To, Q7, Lb, decide_eq_true_iff]; exact ⟨fun ⟨y, hy, e⟩ => by (have e' : y = z := of_decide_eq_true e); exact e' ▸ hy, fun hz => ⟨z, hz, decide_eq_true rfl⟩⟩]
  exact h
theorem Z1h {α : Type} [DecidableEq α] {l : List α} (nd : l.Nodup) {i : Nat} {x : α} (h : l[i]? = some x) : x ∉ l.take i := fun m => by
 obtain ⟨j, hj⟩ := List.mem_iff_getElem?.mp m
 have hji : j < i := by
  have := (Qa.mp hj).1
  rw [Q5] at this
  omega
 rw [Hd hji] at hj
 have hi := (Qa.mp h).1
 have := (List.getElem?_inj (by omega) nd).mp (hj.trans h.symm)
 omega
theorem Yef {ls vw : List Nat} {M : Mem} {Q : DQ} (h : Q (vB false) M) : uNeO .Alphabet Zaq (.v (alph ls vw)) (.v (alph ls vw)) M Q := ⟨_, _, rfl, rfl, ls, vw, ls, vw, rfl, _, rfl, by rw [decide_eq_true rfl, decide_eq_true rfl]; exact h⟩
theorem Zqy {al : PV} {rs : List (List Stg)} {i : Nat} {r : List Stg} (h : rs[i]? = some r) : (rs.map (Zcu al))[i]? = some (Zcu al r) := by rw [Qn, h]; rfl
theorem Zs7 (ds : List D) (M : Mem) (Q : DQ) (E : DX) (h : Ze4 ds M Q E) : Zew { nx := fun _ M' => Q (.v .non) M', rt := Q } (Zac 5 ds) M := by
 obtain ⟨n, ls, vw, rs, rfl, hm, hne, hl, ok, nd, q⟩ := h
 show Zew _ [some (.cell n), some (vL (rs.map (Zcu (alph ls vw)))), none, none, none] M
 unfold Zew
 have hll : (rs.map (Zcu (alph ls vw))).length = rs.length := Qb ..
 obtain ⟨r0, rt, hr0⟩ := List.exists_cons_of_ne_nil hne
 have h0 : (rs.map (Zcu (alph ls vw)))[0]? = some (Zcu (alph ls vw) r0) := Zqy (by rw [hr0]; rfl)
 walk_at "dz"
 rw [show (rs.map (Zcu (alph ls vw))).isEmpty = false by rw [hr0]; rfl]
 walk_at "dz"
 rw [show (rs.map (Zcu (alph ls vw))).map D.v = rs.map (fun r => D.v (Zcu (alph ls vw) r)) from Qq ..]
 refine Zf5 (fun r => D.v (Zcu (alph ls vw) r)) rs (fun r => PV.str (Zbg r)) (show 3 < 5 by decide) (by rw [sizeLine_eq]; omega) (fun r hr Q' q' => ?_) ?_
 ·have hk := ok r hr
  walk_at "dz"
  exact ⟨_, ls, vw, r, rfl, hk.1, hk.2, q'⟩
 walk_at "dz"
 refine ⟨_, rfl, by omega, by omega, ?_⟩
 rw [Ha, hll]
 refine Za9 (fun i ds M' => M' = M ∧ ∃ v4, ds = [some (.cell n), some (vL (rs.map (Zcu (alph ls vw)))), some (vL (rs.map fun r => PV.str (Zbg r))), none, v4]) ⟨rfl, _, rfl⟩ ?_ ?_
 ·rintro i x ds M1 N hx ⟨rfl, v4, rfl⟩ hN
  have hi : i < rs.length := by
   have := (Qa.mp hx).1
   rwa [Qb, Hc] at this
  obtain rfl := Zi0 hx
  obtain ⟨r, hr⟩ : ∃ r, rs[i]? = some r := ⟨_, Qf hi⟩
  have htx : (rs.map fun r => PV.str (Zbg r))[i]? = some (.str (Zbg r)) := by rw [Qn, hr]; rfl
  walk_at "dz"
  refine Zei (atI_nat (Zqy hr)) ?_
  walk_at "dz"
  refine Zei (atI_nat (i := 0) h0) ?_
  walk_at "dz"
  refine Yef ?_
  walk_at "dz"
  refine Zei (atI_nat htx) ?_
  walk_at "dz"
  rw [Z5r]
  refine Yf8 (zs := (rs.map Zbg).take i) (by rw [← Ls, ← Ls, Qq]; rfl) ?_
  rw [decide_eq_false (Z1h nd (by rw [Qn, hr]; rfl))]
  walk_at "dz"
  exact hN _ _ ⟨rfl, _, rfl⟩
 ·rintro ds M1 ⟨rfl, v4, rfl⟩
  walk_at "dz"
  refine Zei (atI_nat (i := 0) h0) ?_
  walk_at "dz"
  have hn : n < M1.length := (Qa.mp hm).1
  refine ⟨n, _, _, rfl, hm, Qu _, by decide, ?_⟩
  walk_at "dz"
  refine ⟨n, _, _, rfl, Qs hn, Qu _, by decide, ?_⟩
  show Q _ (List.set (List.set M1 n _) n _)
  rw [Q2]
  exact q
theorem Yaj {M : Mem} {Q : DQ} {X : DX} {ls vw : List Nat} {rs : List (List Stg)} (hne : rs ≠ []) (hl : rs.length ≤ 1000) (ok : ∀ r ∈ rs, Zc5 ls vw r ∧ r.length ≤ 10) (nd : (rs.map Zbg).Nodup) (h : Q (.v (lotP (alph ls vw) rs)) M) : Ze4 [.cell M.length, vL (rs.map (Zcu (alph ls vw)))] (M ++ [some (.obj .Lot [])]) (mkQ .Lot M Q) (Zbf M X) := by
 refine ⟨M.length, ls, vw, rs, rfl, Qi .., hne, hl, ok, nd, ?_⟩
 exact Zfy (ps := [alph ls vw, .lst (rs.map (Zcu (alph ls vw)))]) h
def mny (n : Nat) : Nat → Nat
 | 0 => 1
 | i + 1 => mny n i + n ^ (i + 1)
theorem Zmm {α : Type} (k : List α) (d : Nat) : lotR k (d + 1) = lotR k d ++ lvl k (d + 1) := by
 unfold lotR
 rw [List.range_succ (n := d + 1), List.flatMap_append, G7, L6, Qx]
theorem Zcr {α : Type} (k : List α) : ∀ d : Nat, (lotR k d).length = mny k.length d
 | 0 => rfl
 | d + 1 => by rw [Zmm, Qc, Zcr k d, Zd8]; rfl
theorem Zga (n : Nat) : ∀ {i d : Nat}, i ≤ d → mny n i ≤ mny n d
 | i, 0, h => by
  obtain rfl : i = 0 := by omega
  exact Qu _
 | i, d + 1, h => by
  by_cases e : i = d + 1
  ·rw [e]; exact Qu _
  ·exact Hb (Zga n (by omega : i ≤ d)) (L4 _ _)
def encL (al : PV) (r : List Stg) : PV := .lst (r.map (Stg.pv al))
theorem Zj5 (ds : List D) (M : Mem) (Q : DQ) (E : DX) (h : Za5 ds M Q E) : Zev { nx := fun _ M' => Zab M Q (.v .non) M', rt := Zab M Q } (Zac 13 ds) M := by
 obtain ⟨ls, vw, sts, d, rfl, ok, sm, hl, hd, nd, hb, q⟩ := h
 show Zev _ [some (.v (.cls .Lot)), some (.v (alph ls vw)), some (vI d), some (.v (.tup ((sts.map Stg.text).map PV.str))), none, none, none, none, none, none, none, none, none] M
 unfold Zev
 have hlb := hb
 rw [Zcr] at hb
 walk_at "dz"
 rw [decide_eq_true (by omega : (0 : Int) ≤ (d : Int))]
 walk_at "dz"
 rw [decide_eq_true (by omega : (d : Int) ≤ 3)]
 walk_at "dz"
 refine ⟨ls, vw, sts, rfl, ok, sm, hl, ?_⟩
 walk_at "dz"
 have hll : ((sts.map Stg.text).map PV.str).length = sts.length := by rw [Qb, Qb]
 rw [hll]
 refine ⟨_, rfl, by omega, by omega, ?_⟩
 rw [Ha]
 refine Za9 (fun i ds M' => M' = M ∧ ∃ v5, ds = [some (.v (.cls .Lot)), some (.v (alph ls vw)), some (vI d), some (.v (.tup ((sts.map Stg.text).map PV.str))), some (vL (sts.map (Stg.pv (alph ls vw)))), v5, none, none, none, none, none, none, none]) ⟨rfl, _, rfl⟩ ?_ ?_
 ·rintro i x ds M1 N hx ⟨rfl, v5, rfl⟩ hN
  have hi : i < sts.length := by
   have := (Qa.mp hx).1
   rwa [Qb, Hc] at this
  obtain rfl := Zi0 hx
  obtain ⟨s, hs⟩ : ∃ s, sts[i]? = some s := ⟨_, Qf hi⟩
  have htx : ((sts.map Stg.text).map PV.str)[i]? = some (.str s.text) := by rw [Qn, Qn, hs]; rfl
  walk_at "dz"
  refine Z16 (atI_nat htx) ?_
  walk_at "dz"
  refine Z4x (fun w => by rw [HT.sIx_nat, hll] at w; omega) ?_
  walk_at "dz"
  rw [Z5r]
  refine Yda (zs := (sts.map Stg.text).take i) (by rw [← Ls]) ?_
  rw [decide_eq_false (Z1h nd (by rw [Qn, hs]; rfl))]
  walk_at "dz"
  exact hN _ _ ⟨rfl, _, rfl⟩
 rintro ds M1 ⟨rfl, v5, rfl⟩
 walk_at "dz"
 refine ⟨_, rfl, by omega, by omega, ?_⟩
 rw [Ha]
 refine Za9 (fun i ds M' => M' = M1 ∧ ∃ v8, ds = [some (.v (.cls .Lot)), some (.v (alph ls vw)), some (vI d), some (.v (.tup ((sts.map Stg.text).map PV.str))), some (vL (sts.map (Stg.pv (alph ls vw)))), v5, some (vI (mny sts.length i : Nat)), some (vI (sts.length ^ i : Nat)), v8, none, none, none, none]) ⟨rfl, _, rfl⟩ ?_ ?_
 ·rintro i x ds M2 N hx ⟨rfl, v8, rfl⟩ hN
  walk_at "dz"
  refine Or.inl ⟨_, _, rfl, rfl, Or.inr ⟨by rw [Qb]; omega, by rw [Qb]; omega⟩, ?_⟩
  rw [show ((sts.length ^ i : Nat) : Int) * (((sts.map (Stg.pv (alph ls vw))).length : Nat) : Int) = ((sts.length ^ (i + 1) : Nat) : Int) by rw [Qb, Nat.pow_succ]; push_cast; rfl]
  walk_at "dz"
  exact hN _ _ ⟨rfl, _, by rw [show ((mny sts.length (i + 1) : Nat) : Int) = (mny sts.length i : Nat) + (sts.length ^ (i + 1) : Nat) from Int.natCast_add ..]; rfl⟩
 rintro ds M2 ⟨rfl, v8, rfl⟩
 rw [Qb, Hc]
 walk_at "dz"
 rw [decide_eq_false (by omega : ¬ (((mny sts.length d : Nat) : Int) > 200))]
 walk_at "dz"
 refine Zx8 (sts := []) (by decide) ?_
 walk_at "dz"
 refine ⟨_, rfl, by omega, by omega, ?_⟩
 rw [Ha]
 refine Za9 (fun i ds M' => M' = M2 ∧ ∃ v8 v11 v12, ds = [some (.v (.cls .Lot)), some (.v (alph ls vw)), some (vI d), some (.v (.tup ((sts.map Stg.text).map PV.str))), some (vL (sts.map (Stg.pv (alph ls vw)))), v5, some (vI (mny sts.length d : Nat)), some (vI (sts.length ^ d : Nat)), v8, some (vL ((lvl sts i).map (encL (alph ls vw)))), some (vL ((lotR sts i).map (Zcu (alph ls vw)))), v11, v12]) ⟨rfl, _, _, _, rfl⟩ ?_ ?_
 ·rintro i x ds M3 N hx ⟨rfl, v8, v11, v12, rfl⟩ hN
  have hi : i < d := by
   have := (Qa.mp hx).1
   rwa [Qb, Hc] at this
  have hb1 : mny sts.length (i + 1) ≤ 200 := Hb (Zga _ (by omega)) hb
  have hb2 : sts.length ^ (i + 1) ≤ 200 := Hb (Nat.le_add_left _ _) hb1
  walk_at "dz"
  rw [show ((lvl sts i).map (encL (alph ls vw))).map D.v = (lvl sts i).map (fun r => D.v (encL (alph ls vw) r)) from Qq ..]
  refine Zpe (fun r => D.v (encL (alph ls vw) r)) (fun s => D.v (Stg.pv (alph ls vw) s)) sts (fun r s => encL (alph ls vw) (r ++ [s])) (lvl sts i) [] ?_ (fun r hr QI qi => ?_) (fun r hr s hs Q' q' => ?_) ?_
  ·rw [Qh, L5, show (lvl sts i).length * sts.length = sts.length ^ (i + 1) by rw [Zd8]; rfl, sizeLine_eq]; omega
  ·walk_at "dz"
   rw [Qq]
   exact qi
  ·walk_at "dz"
   refine ⟨_, rfl, ?_⟩
   walk_at "dz"
   have hrl := Zg2 hr
   rw [show (r.map (Stg.pv (alph ls vw))).map D.v ++ [D.v (s.pv (alph ls vw))] = ((r ++ [s]).map (Stg.pv (alph ls vw))).map D.v by rw [Qv, Qv]; rfl]
   exact ⟨_, Zby _, by rw [Qb, Qb, Qc, hrl, Hn, sizeLine_eq]; omega, q'⟩
  have hlv : ((lvl sts i).flatMap fun r => sts.map fun s => encL (alph ls vw) (r ++ [s])) = (lvl sts (i + 1)).map (encL (alph ls vw)) := by
   show _ = ((lvl sts i).flatMap _).map _
   rw [Lc]
   congr 1
   funext r
   rw [Qq]
   rfl
  rw [Hw, hlv]
  walk_at "dz"
  rw [show ((lvl sts (i + 1)).map (encL (alph ls vw))).map D.v = (lvl sts (i + 1)).map (fun r => D.v (encL (alph ls vw) r)) from Qq ..]
  refine Zf5 (fun r => D.v (encL (alph ls vw) r)) (lvl sts (i + 1)) (fun r => Zcu (alph ls vw) r) (show 11 < 13 by decide) (by rw [Zd8, sizeLine_eq]; omega) (fun r hr Q' q' => ?_) ?_
  ·have hrl := Zg2 hr
   walk_at "dz"
   refine ⟨_, rfl, ?_⟩
   walk_at "dz"
   rw [Qx]
   exact Zx8 (by omega) q'
  walk_at "dz"
  refine Zm1 (by rw [Qb, Qb, Zcr, Zd8, sizeLine_eq]; have := Zga sts.length (by omega : i ≤ d); omega) ?_
  rw [← Qv, ← Zmm]
  exact hN _ _ ⟨rfl, _, _, _, rfl⟩
 rintro ds M3 ⟨rfl, v8', v11, v12, rfl⟩
 rw [Qb, Hc]
 walk_at "dz"
 have oks : ∀ r ∈ lotR sts d, Zc5 ls vw r ∧ r.length ≤ 10 := fun r hr => ⟨fun t ht => ok t ((Zje hr).2 t ht), by have := (Zje hr).1; omega⟩
 exact Yaj (by rw [← Gf, Zcr]; exact Lq (Nat.one_pos : 0 < mny sts.length 0) (Zga _ (Qr _))) (by omega) oks (Z1m (fun x hx => (oks x hx).1) sm nd) (Zad q)
def Zph : Kd → Option Bool
 | .t n => if n = "list" then some true else none
 | _ => none
end Cl
namespace Cl.Kl
open PySem PySem.Spec PyProof.Rows L2 He ClX
def Z2h : DSp := fun ds M Q _ => ∃ ns, ds = [.v (.scr ns)] ∧ ns.length ≤ 63 ∧ ∀ M', Q (vB true) M'
theorem Z1s (ds : List D) (M : Mem) (Q : DQ) (E : DX) (h : Z2h ds M Q E) : ds.length = 1 := by obtain ⟨_, rfl, _⟩ := h; rfl
theorem Zz5 {K : PySem.W.Frag} {cs : List Cn} {H : Hp} {a : Addr} {ns : List Int} {Q : VK} {E : XK} (hl : ns.length ≤ 63) (h : SqL K H a (ns.map V.int)) (q : ∀ H', Q (.bl true) H') : spD K cs Z2h [.ref a] H Q E :=
 ⟨⟨H, [], H⟩, [], [.v (.scr ns)], fun d _ => d = vB true, fun _ _ => False, rfl, ⟨Same.refl _, rfl, H5, (fun _ m => nomatch m), fun i a x e => by simp at e⟩, .cons ⟨a, rfl, h⟩ .nil, ⟨ns, rfl, hl, fun _ => rfl⟩, fun c' M' v d s r p q' => by subst q'; cases (show v = .bl true from p); exact q _, fun _ _ _ _ _ _ _ _ q => q.elim⟩
def Zgf : DSp := fun ds M Q _ => ∃ ls vw sts, ∃ d : Nat, ds = [.v (alph ls vw), vL ((sts.map Stg.text).map PV.str), vI d] ∧ Zc5 ls vw sts ∧ (∀ c ∈ ls, c ∈ small) ∧ sts.length ≤ 4 ∧ d ≤ 3 ∧ (sts.map Stg.text).Nodup ∧ Q (.v (lotP (alph ls vw) (lotR sts d))) M
theorem Zj8 (ds : List D) (M : Mem) (Q : DQ) (E : DX) (h : Zgf ds M Q E) : ds.length = 3 := by obtain ⟨_, _, _, _, rfl, _⟩ := h; rfl
def Zhw : DS :=
 dSeq (dIfS (Zae (dOp uEq (dCB uLen (Zaa (dVar 1) dNil)) (dC (.int 0)))) (dRet (Zed .Lot 2 1 catD Za5 noX (dC (.cls .Lot)) (Zaa (dVar 0) dNil) (Zaa (dVar 2) dNil))) Zaf) (dSeq (dIfS (Zae (dOp uEq (dCB uLen (Zaa (dVar 1) dNil)) (dC (.int 1)))) (dRet (Zed .Lot 2 1 catD Za5 noX (dC (.cls .Lot)) (Zaa (dVar 0) (Zaa (dOp uIx (dVar 1) (dC (.int 0))) dNil)) (Zaa (dVar 2) dNil))) Zaf) (dSeq (dIfS (Zae (dOp uEq (dCB uLen (Zaa (dVar 1) dNil)) (dC (.int 2)))) (dRet (Zed .Lot 2 1 catD Za5 noX (dC (.cls .Lot)) (Zaa (dVar 0) (Zaa (dOp uIx (dVar 1) (dC (.int 0))) (Zaa (dOp uIx (dVar 1) (dC (.int 1))) dNil))) (Zaa (dVar 2) dNil))) Zaf) (dSeq (dIfS (Zae (dOp uEq (dCB uLen (Zaa (dVar 1) dNil)) (dC (.int 3)))) (dRet (Zed .Lot 2 1 catD Za5 noX (dC (.cls .Lot)) (Zaa (dVar 0) (Zaa (dOp uIx (dVar 1) (dC (.int 0))) (Zaa (dOp uIx (dVar 1) (dC (.int 1))) (Zaa (dOp uIx (dVar 1) (dC (.int 2))) dNil)))) (Zaa (dVar 2) dNil))) Zaf) (dRet (Zed .Lot 2 1 catD Za5 noX (dC (.cls .Lot)) (Zaa (dVar 0) (Zaa (dOp uIx (dVar 1) (dC (.int 0))) (Zaa (dOp uIx (dVar 1) (dC (.int 1))) (Zaa (dOp uIx (dVar 1) (dC (.int 2))) (Zaa (dOp uIx (dVar 1) (dC (.int 3))) dNil))))) (Zaa (dVar 2) dNil))))))
def Z06 : DS :=
 dSeq (dAsg (Zau Zm5 noX (Zaa (dVar 0) dNil)) (hName 1)) (dSeq (dAsg (Zau Zea noX (Zaa (dVar 1) (Zaa (dC (.int 3)) dNil))) (hName 2)) (dSeq (dAsg (Zau Ze2 noX (Zaa (dVar 1) (Zaa (dVar 2) dNil))) (hName 3)) (dSeq (dAsg (Zng .Alphabet Zbt [] noX (Zaa (dVar 2) (Zaa (dVar 3) dNil))) (hName 4)) (dSeq (dAsg (Zrr dNil) (hName 5)) (dSeq (dFz 5 (dFor (Zjn (Zaa (Zau Zak noX (Zaa (dVar 1) (Zaa (dC (.int 5)) dNil))) dNil)) (hName 6) (dSeq (dAsg (Zau Zf0 noX (Zaa (dVar 1) (Zaa (dVar 2) dNil))) (hName 7)) (dIfS (Zae (dOp (Z3x true) (dVar 7) (dVar 5))) (Zf4 (dBm tyL uApp (dVar 5) (Zaa (dVar 7) dNil))) Zaf)))) (dSeq (dAsg (dLc (jLst (dVar 5)) (hName 7) dYes (Zau Zbz noX (Zaa (dVar 7) dNil)) [7]) (hName 8)) (dSeq (dAsg (Zau Zak noX (Zaa (dVar 1) (Zaa (dC (.int 4)) dNil))) (hName 9)) (dSeq (dAsg (dLst (Zaa (dLst dNil) dNil)) (hName 10)) (dSeq (dAsg (dLst (Zaa (dLst dNil) dNil)) (hName 11)) (dSeq (dFor (Zjn (Zaa (dVar 9) dNil)) (hName 12) (dSeq (dAsg (dLst dNil) (hName 13)) (dSeq (dFor (jLst (dVar 10)) (hName 14) (dAsg (dOp uAdd (dVar 13) (dLc (jLst (dVar 5)) (hName 7) dYes (dOp uAdd (dVar 14) (dLst (Zaa (dVar 7) dNil))) [7])) (hName 13))) (dSeq (dAsg (dVar 13) (hName 10)) (dAsg (dOp uAdd (dVar 11) (dVar 10)) (hName 11)))))) (dSeq (dAsg (Zau Zgf noX (Zaa (dVar 4) (Zaa (dVar 8) (Zaa (dVar 9) dNil)))) (hName 15)) (dSeq (dIfS (dOr (Zae (dOp uNe (dCB (Zzj .Lot Ze3) (Zaa (dVar 15) dNil)) (dCB uLen (Zaa (dVar 11) dNil)))) (Zae (dOp uNe (dFrz (Zc4 (gm1 .Lot Zar) [] noX (dVar 15) dNil)) (dLc (jLst (dVar 11)) (hName 14) dYes (Zau Zdi noX (Zaa (dVar 14) dNil)) [14])))) (dRet (dC (.bl false))) Zaf) (dSeq (dIfS (dOr (dNot (dTru (dCB (uIsi Zph (.ty "list")) (Zaa (dFld (dVar 15) .rules) (Zaa (dC (.ty "list")) dNil))))) (Zae (dOp uNe (dCB uLen (Zaa (dFld (dVar 15) .rules) dNil)) (dCB uLen (Zaa (dVar 11) dNil))))) (dRet (dC (.bl false))) Zaf) (dSeq (dIfS (dOr (Zae (dOp uNe (dC (.int 200)) (dC (.int 200)))) (dNot (dTru (dCB Zzk (Zaa (dOp (uEqO .Alphabet Zaq) (dFld (dVar 15) .alphabet) (dVar 4)) dNil))))) (dRet (dC (.bl false))) Zaf) (dSeq (dAsg (Zau Zak noX (Zaa (dVar 1) (Zaa (dCB uLen (Zaa (dVar 11) dNil)) dNil))) (hName 16)) (dSeq (dAsg (Zau Zib noX (Zaa (dVar 1) (Zaa (dOp uAdd (dC (.str [45])) (dVar 2)) (Zaa (dC (.int 6)) dNil)))) (hName 17)) (dSeq (dIfS (Zae (dOp uNe (Zpd (gm1 .Rule Zbr) noX (dOp uIx (dFld (dVar 15) .rules) (dVar 16)) (Zaa (dVar 17) dNil)) (Zau Zic noX (Zaa (dVar 2) (Zaa (dVar 3) (Zaa (dOp uIx (dVar 11) (dVar 16)) (Zaa (dVar 17) dNil))))))) (dRet (dC (.bl false))) Zaf) (dSeq (dAsg (Zc4 (gm1 .Lot Zar) [] noX (dVar 15) dNil) (hName 18)) (dSeq (Zf4 (dBm tyL uApp (dVar 18) (Zaa (dC (.str [107, 101, 101, 112])) dNil))) (dSeq (dIfS (dOr (Zae (dOp uNe (dFrz (Zc4 (gm1 .Lot Zar) [] noX (dVar 15) dNil)) (dSl uSl (dVar 18) Zci (Zej (dUn uNeg (dC (.int 1))))))) (Zae (dOp uNe (dCB (Zzj .Lot Ze3) (Zaa (dVar 15) dNil)) (dCB uLen (Zaa (dVar 11) dNil))))) (dRet (dC (.bl false))) Zaf) (dSeq (dAsg (Zed .Lot 2 0 (kwD 2) Za5 noX (dC (.cls .Lot)) (Zaa (dVar 4) (Zaa (dC (.str [111, 110, 99, 101, 32, 97, 108, 108])) (Zaa (dC (.str [97, 100, 100, 32, 45])) dNil))) dNil) (hName 19)) (dSeq (dAsg (dLst (Zaa (dC (.str [111, 110, 99, 101, 32, 97, 108, 108, 59, 32, 111, 110, 99, 101, 32, 97, 108, 108])) (Zaa (dC (.str [111, 110, 99, 101, 32, 97, 108, 108, 59, 32, 97, 100, 100, 32, 45])) (Zaa (dC (.str [97, 100, 100, 32, 45, 59, 32, 111, 110, 99, 101, 32, 97, 108, 108])) (Zaa (dC (.str [97, 100, 100, 32, 45, 59, 32, 97, 100, 100, 32, 45])) dNil))))) (hName 20)) (dRet (dOp uEq (dFrz (Zc4 (gm1 .Lot Zar) [] noX (dVar 19) dNil)) (dOp uAdd (dLst (Zaa (dC (.str [107, 101, 101, 112])) (Zaa (dC (.str [111, 110, 99, 101, 32, 97, 108, 108])) (Zaa (dC (.str [97, 100, 100, 32, 45])) dNil)))) (dVar 20))))))))))))))))))))))))))
def cs_ : List Cn := [.Alphabet, .Drop, .LastDrop, .Write, .Once, .Add, .Rule, .Lot]
abbrev Zgs (K : PySem.W.Frag) : Sp := spX1 (ga K "BadAlphabet") "part"
def Zhi (P : Program) (w : World) (K : PySem.W.Frag) : TS :=
 tSeq (tDrop (tVeI K (tCons (tVar 0) (tCons (tC (sv [97, 110, 32, 97, 114, 103, 117, 109, 101, 110, 116, 32, 111, 102, 32, 97, 110, 32, 97, 108, 112, 104, 97, 98, 101, 116, 32, 105, 115, 32, 119, 114, 111, 110, 103])) tNil)))) (tOst K "part" (tVar 0) (tVar 1))
abbrev Zlx (K : PySem.W.Frag) : Sp := spX1 (ga K "BadWord") "word"
def Znq (P : Program) (w : World) (K : PySem.W.Frag) : TS :=
 tSeq (tDrop (tVeI K (tCons (tVar 0) (tCons (tC (sv [97, 32, 115, 116, 114, 105, 110, 103, 32, 105, 115, 32, 110, 111, 116, 32, 97, 32, 119, 111, 114, 100, 32, 111, 102, 32, 116, 104, 101, 32, 97, 108, 112, 104, 97, 98, 101, 116])) tNil)))) (tOst K "word" (tVar 0) (tVar 1))
abbrev Zb1 (K : PySem.W.Frag) : Sp := spX1 (ga K "BadStage") "what"
def Zlp (P : Program) (w : World) (K : PySem.W.Frag) : TS :=
 tSeq (tDrop (tVeI K (tCons (tVar 0) (tCons (tC (sv [97, 32, 112, 97, 114, 116, 32, 111, 102, 32, 97, 32, 115, 116, 97, 103, 101, 32, 105, 115, 32, 119, 114, 111, 110, 103])) tNil)))) (tOst K "what" (tVar 0) (tVar 1))
abbrev Zfp (K : PySem.W.Frag) : Sp := spX2 (ga K "BadRule") "stage" "what"
def Znr (P : Program) (w : World) (K : PySem.W.Frag) : TS :=
 tSeq (tDrop (tVeI K (tCons (tVar 0) (tCons (tC (sv [97, 32, 112, 105, 101, 99, 101, 32, 111, 102, 32, 97, 32, 119, 114, 105, 116, 116, 101, 110, 32, 114, 117, 108, 101, 32, 105, 115, 32, 119, 114, 111, 110, 103])) tNil)))) (tSeq (tOst K "stage" (tVar 0) (tVar 1)) (tOst K "what" (tVar 0) (tVar 2)))
abbrev Zgm (K : PySem.W.Frag) : Sp := spD K cs_ Zaq
abbrev Zdd (K : PySem.W.Frag) : Sp := spD K cs_ Zax
abbrev Zel (K : PySem.W.Frag) : Sp := spD K cs_ Zbs
def Ze9 (P : Program) (w : World) (K : PySem.W.Frag) (E : XK) : TS :=
 tSeq (tDrop (tSup K (ga K "Drop") "__init__" (fAd K ("Stage", some "__init__")) (fun vs => Zdd K (vs ++ [])) E0 (tCons (tVar 1) tNil))) (tSeq (sFld K (tVar 0) (tVar 2) "name") (tSeq (sFld K (tVar 0) (Zfn (okM K cs_ Za3) "members" [] E (tVar 1) (tCons (tVar 2) tNil)) "chosen") (tSeq (tIfS (tNot (tTest (tChain zLe zLe (tC (.int 0)) (tVar 3) (tC (.int 3))))) (Zem E (ga K "BadStage") (Zb1 K) (tCons (tC (sv [97, 102, 116, 101, 114])) tNil)) tNext) (tSeq (sFld K (tVar 0) (tVar 3) "after") (sFld K (tVar 0) (tVar 4) "each")))))
abbrev Zso (K : PySem.W.Frag) : Sp := spD K cs_ Zba
abbrev Zpo (K : PySem.W.Frag) : Sp := spD K cs_ Zay
abbrev Zsp (K : PySem.W.Frag) : Sp := spD K cs_ Zbb
abbrev Zu6 (K : PySem.W.Frag) : Sp := spD K cs_ Zbw
abbrev Zc9 (K : PySem.W.Frag) : Sp := spD K cs_ Za6
def Zcd (P : Program) (w : World) (K : PySem.W.Frag) (E : XK) : TS :=
 tDrop (Z77 K (ga K "LastDrop") "__init__" (fAd K ("Drop", some "__init__")) 2 2 (Zel K) E (tCons (tVar 1) (tCons (tVar 2) tNil)) (tCons (tVar 3) (tCons (tVar 4) tNil)))
abbrev Zc7 (K : PySem.W.Frag) : Sp := spD K cs_ Zas
def Zcb (P : Program) (w : World) (K : PySem.W.Frag) : TS :=
 tRet (tOp zAdd (tSup K (ga K "LastDrop") "text" (fAd K ("Drop", some "text")) (fun vs => Zso K (vs ++ [])) E0 tNil) (tC (sv [32, 98, 117, 116, 32, 108, 97, 115, 116])))
abbrev Zcj (K : PySem.W.Frag) : Sp := spD K cs_ Zap
def Zb0 (P : Program) (w : World) (K : PySem.W.Frag) : TS :=
 tRet (tTup (tCons (tSup K (ga K "LastDrop") "start" (fAd K ("Drop", some "start")) (fun vs => Zpo K (vs ++ [])) E0 tNil) (tCons (tC (sv [])) tNil)))
abbrev Zc8 (K : PySem.W.Frag) : Sp := spD K cs_ Zat
def Zcc (P : Program) (w : World) (K : PySem.W.Frag) : TS :=
 tSeq (tAsg (tVar 1) (gTup K 2 (gCons (gName 3) (gCons (gName 4) gNil)))) (tSeq (tAsg (tSup K (ga K "LastDrop") "step" (fAd K ("Drop", some "step")) (fun vs => Zsp K (vs ++ [])) E0 (tCons (tVar 3) (tCons (tVar 2) tNil))) (gTup K 2 (gCons (gName 3) (gCons (gName 5) gNil)))) (tSeq (tIfS (tAnd (tTru K (tFld K (tVar 0) "each")) (tTest (tOp (zEq K) (tVar 2) (tCVal K (tC (.ref (ga K "Alphabet"))) "JOINT")))) (tRet (tTup (tCons (tTup (tCons (tVar 3) (tCons (tC (sv [])) tNil))) (tCons (tOp zAdd (tVar 4) (tVar 5)) tNil)))) tNext) (tSeq (tIfS (tTest (tOp (zEq K) (tVar 5) (tC (sv [])))) (tRet (tTup (tCons (tTup (tCons (tVar 3) (tCons (tVar 2) tNil))) (tCons (tC (sv [])) tNil)))) tNext) (tRet (tTup (tCons (tTup (tCons (tVar 3) (tCons (tC (sv [])) tNil))) (tCons (tVar 5) tNil)))))))
abbrev Zdo (K : PySem.W.Frag) : Sp := spD K cs_ Za0
def Zcq (P : Program) (w : World) (K : PySem.W.Frag) : TS :=
 tSeq (tAsg (tVar 1) (gTup K 2 (gCons (gName 2) (gCons (gName 3) gNil)))) (tRet (tOp zAdd (tVar 3) (tSup K (ga K "LastDrop") "end" (fAd K ("Drop", some "end")) (fun vs => Zu6 K (vs ++ [])) E0 (tCons (tVar 2) tNil))))
abbrev Zfb (K : PySem.W.Frag) : Sp := spD K cs_ Zc3
def Zek (P : Program) (w : World) (K : PySem.W.Frag) (E : XK) : TS :=
 tSeq (tDrop (tSup K (ga K "Write") "__init__" (fAd K ("Stage", some "__init__")) (fun vs => Zdd K (vs ++ [])) E0 (tCons (tVar 1) tNil))) (tSeq (tIfS (tOr (tTest (tOp (zNe K) (tCB (Zr9 P w K) (tCons (tVar 2) tNil)) (tC (.int 1)))) (tNot (tTru K (Zfn (okM K cs_ Za4) "is_word" [] E0 (tVar 1) (tCons (tVar 2) tNil))))) (Zem E (ga K "BadStage") (Zb1 K) (tCons (tC (sv [115, 105, 103, 110])) tNil)) tNext) (tSeq (sFld K (tVar 0) (tVar 2) "sign") (tSeq (sFld K (tVar 0) (tVar 3) "name") (sFld K (tVar 0) (Zfn (okM K cs_ Za3) "members" [] E (tVar 1) (tCons (tVar 3) tNil)) "chosen"))))
abbrev Zfo (K : PySem.W.Frag) : Sp := spD K cs_ Zeb
def Ze8 (P : Program) (w : World) (K : PySem.W.Frag) (E : XK) : TS :=
 tSeq (tDrop (tSup K (ga K "Once") "__init__" (fAd K ("Stage", some "__init__")) (fun vs => Zdd K (vs ++ [])) E0 (tCons (tVar 1) tNil))) (tSeq (sFld K (tVar 0) (tVar 2) "name") (sFld K (tVar 0) (Zfn (okM K cs_ Za3) "members" [] E (tVar 1) (tCons (tVar 2) tNil)) "chosen"))
abbrev Zgt (K : PySem.W.Frag) : Sp := spD K cs_ Ze5
def Zf7 (P : Program) (w : World) (K : PySem.W.Frag) (E : XK) : TS :=
 tSeq (tDrop (tSup K (ga K "Add") "__init__" (fAd K ("Stage", some "__init__")) (fun vs => Zdd K (vs ++ [])) E0 (tCons (tVar 1) tNil))) (tSeq (tIfS (tOr (tTest (tOp (zNe K) (tCB (Zr9 P w K) (tCons (tVar 2) tNil)) (tC (.int 1)))) (tNot (tTru K (Zfn (okM K cs_ Za4) "is_word" [] E0 (tVar 1) (tCons (tVar 2) tNil))))) (Zem E (ga K "BadStage") (Zb1 K) (tCons (tC (sv [115, 105, 103, 110])) tNil)) tNext) (sFld K (tVar 0) (tVar 2) "sign"))
abbrev Zj2 (K : PySem.W.Frag) : Sp := spD K cs_ Zcm
def Ze7 (P : Program) (w : World) (K : PySem.W.Frag) (E : XK) : TS :=
 tSeq (tIfS (tTest (tOp zGt (tCB (Zr9 P w K) (tCons (tVar 2) tNil)) (tCVal K (tC (.ref (ga K "Rule"))) "MOST"))) (Zem E (ga K "BadRule") (Zfp K) (tCons (tOp zAdd (tCVal K (tC (.ref (ga K "Rule"))) "MOST") (tC (.int 1))) (tCons (tC (sv [99, 111, 117, 110, 116])) tNil))) tNext) (tSeq (tFor (iTup K (tVar 2)) (gName 3) (tIfS (tTest (tOp (rNeI (ga K "Alphabet") (Zgm K) E0) (tFld K (tVar 3) "alphabet") (tVar 1))) (Zzr E (ga K "Mixed")) tNext)) (tSeq (sFld K (tVar 0) (tVar 1) "alphabet") (sFld K (tVar 0) (tThen (tVar 2) (kTup K)) "stages")))
abbrev Z59 (K : PySem.W.Frag) : Sp := spD K cs_ Z2h
local macro_rules | `(tactic| walk_at "zv") => `(tactic| first | (dsimp only [Hg, Hr, Hh, Hi]; done) | (with_unfolding_all exact rfl))
local macro_rules | `(tactic| walk_at "sz") => `(tactic| (rw [sizeLine_eq]; (try simp only [Qc, Qe, Qh, Qb, Qt]); omega))
local macro_rules | `(tactic| walk_at "fz") => `(tactic| repeat with_reducible refine Wg.go ?_)
local macro_rules | `(tactic| walk_at "dw") => `(tactic| skip)
local macro_rules | `(tactic| walk_at "dx") => `(tactic| skip)
local macro_rules | `(tactic| walk_at "ds") => `(tactic| (walk_at "fz"; walk_at "dw"))
local macro_rules | `(tactic| walk_at "dz") => `(tactic| (walk_at "ds"; walk_at "dx"))
local macro_rules | `(tactic| walk_at "dx") => `(tactic| (((first | with_reducible refine z_eq ?_ | with_reducible refine Z7u ?_ | with_reducible refine z_F (c := isNon (.v _)) (by with_unfolding_all exact rfl) ?_ | with_reducible refine z_nF (c := isNon (.v _)) (by with_unfolding_all exact rfl) ?_ | with_reducible refine z_T (c := isNon (.v _)) (by with_unfolding_all exact rfl) ?_ | with_reducible refine z_nT (c := isNon (.v _)) (by with_unfolding_all exact rfl) ?_ | with_reducible refine z_F (by decide) ?_ | with_reducible refine z_T (by decide) ?_ | with_reducible refine z_nF (by decide) ?_ | with_reducible refine z_nT (by decide) ?_ | fail); walk_at "ds"); walk_at "dx"))
local macro_rules | `(tactic| walk_at "dw") => `(tactic| (((first | with_reducible refine Ztt (by first | (dsimp only [Hg, Hr, Hh, Hi]; done) | (with_unfolding_all exact rfl)) ?_ | with_reducible refine Z16 (by with_unfolding_all exact rfl) ?_ | with_reducible refine k_pu (by with_unfolding_all exact rfl) (by (rw [sizeLine_eq]; (try simp only [Qc, Qe, Qh, Qb, Qt]); omega)) ?_ | with_reducible refine iteT ?_ | with_reducible refine k_eq (by with_unfolding_all exact rfl) ?_ | with_reducible refine iteF ?_ | with_reducible refine k_sz (by (rw [sizeLine_eq]; (try simp only [Qc, Qe, Qh, Qb, Qt]); omega)) ?_ | with_reducible refine k_ne (by with_unfolding_all exact rfl) ?_ | with_reducible refine Zxp (by (rw [sizeLine_eq]; (try simp only [Qc, Qe, Qh, Qb, Qt]); omega)) ?_ | with_reducible refine Ze1 (by (rw [sizeLine_eq]; (try simp only [Qc, Qe, Qh, Qb, Qt]); omega)) ?_ | with_reducible refine Zxr _ ?_ | with_reducible refine Zka (by rfl) ?_ | with_reducible refine Zei (by with_unfolding_all exact rfl) ?_ | with_reducible refine Z4y (by (rw [sizeLine_eq]; (try simp only [Qc, Qe, Qh, Qb, Qt]); omega)) ?_ | fail); walk_at "fz"); walk_at "dw"))
local macro_rules | `(tactic| walk_at "dx") => `(tactic| (((first | with_reducible refine Z15 ?_ | with_reducible refine Z14 ?_ | with_reducible refine Z13 ?_ | with_reducible refine Z12 ?_ | with_reducible refine Z7w (by first | omega | (simp; done) | (simp; omega)) ?_ | with_reducible refine Z7v (by first | omega | (simp; done) | (simp; omega)) ?_ | with_reducible refine Zzc (by first | omega | (simp; done) | (simp; omega)) ?_ | with_reducible refine Zzb (by first | omega | (simp; done) | (simp; omega)) ?_ | with_reducible refine Z7y (by first | omega | (simp; done) | (simp; omega)) ?_ | with_reducible refine Z7x (by first | omega | (simp; done) | (simp; omega)) ?_ | fail); walk_at "ds"); walk_at "dx"))
local macro_rules | `(tactic| walk_at "dw") => `(tactic| (((first | with_reducible refine k_fo (by with_unfolding_all exact rfl) ?_ | fail); walk_at "fz"); walk_at "dw"))
local macro_rules | `(tactic| walk_at "dw") => `(tactic| (((first | with_reducible refine Z10 (by decide) ?_ | with_reducible refine Z1y (by decide) ?_ | fail); walk_at "fz"); walk_at "dw"))
local macro_rules | `(tactic| walk_at "dw") => `(tactic| (((first | with_reducible refine k_rd (by with_unfolding_all exact rfl) ?_ | with_reducible refine Z64 (by with_unfolding_all exact rfl) ?_ | fail); walk_at "fz"); walk_at "dw"))
local macro_rules | `(tactic| walk_at "dw") => `(tactic| (((first | with_reducible refine Z7h (by with_unfolding_all exact rfl) ?_ | fail); walk_at "fz"); walk_at "dw"))
local macro_rules | `(tactic| walk_at "dw") => `(tactic| (((first | with_reducible refine k_enum ?_ | fail); walk_at "fz"); walk_at "dw"))
noncomputable instance Yg7 : DecidableEq Stg := fun _ _ => Classical.propDecidable _
theorem Zcs (a b : List Nat) : eqvP (.str a) (.str b) = decide (a = b) := SX.S_beq_eq
theorem Z2n (a b : Bool) : eqvP (.bl a) (.bl b) = decide (a = b) := by cases a <;> cases b <;> rfl
theorem Z5f (a b : Int) : eqvP (.int a) (.int b) = decide (a = b) := by show (a == b) = _; rw [Q7]; simp
theorem Zb3 {d o : List Nat} (h : d ≠ o) (xs ys : List PV) : eqvP (.tup (.str d :: xs)) (.tup (.str o :: ys)) = false := by
 show (eqvP (.str d) (.str o) && PyData.eqvAll (Zd6 xs) (Zd6 ys)) = false
 rw [Zcs, decide_eq_false h]
 rfl
theorem Zzo {ls vw : List Nat} {a b : Stg} (ok1 : a.ok ls vw) (ok2 : b.ok ls vw) : eqvP a.tup b.tup = decide (a = b) := by
 cases a with
 | drop nm ch n e l => cases b with
  | drop nm' ch' n' e' l' =>
   obtain ⟨_, rfl, _⟩ := ok1
   obtain ⟨_, rfl, _⟩ := ok2
   show (eqvP (.str [100, 114, 111, 112]) (.str [100, 114, 111, 112]) && (eqvP (.str nm) (.str nm') && (eqvP (.int n) (.int n') && (eqvP (.bl e) (.bl e') && (eqvP (.bl l) (.bl l') && true))))) = _
   rw [Zcs, Zcs, Z5f, Z2n, Z2n, decide_eq_true rfl, Q7]
   simp only [La, Lv, Hq, decide_eq_true_iff, Stg.drop.injEq]
   exact ⟨fun ⟨h1, h2, h3, h4⟩ => ⟨h1, by rw [h1], by omega, h3, h4⟩, fun ⟨h1, _, h2, h3, h4⟩ => ⟨h1, by omega, h3, h4⟩⟩
  | write => exact (Zb3 (by decide) _ _).trans (decide_eq_false (fun h => by cases h)).symm
  | once => exact (Zb3 (by decide) _ _).trans (decide_eq_false (fun h => by cases h)).symm
  | add => exact (Zb3 (by decide) _ _).trans (decide_eq_false (fun h => by cases h)).symm
 | write x nm ch => cases b with
  | write x' nm' ch' =>
   obtain ⟨_, _, rfl, _⟩ := ok1
   obtain ⟨_, _, rfl, _⟩ := ok2
   show (eqvP (.str [119, 114, 105, 116, 101]) (.str [119, 114, 105, 116, 101]) && (eqvP (.str [x]) (.str [x']) && (eqvP (.str nm) (.str nm') && true))) = _
   rw [Zcs, Zcs, Zcs, decide_eq_true rfl, Q7]
   simp only [La, Lv, Hq, decide_eq_true_iff, Stg.write.injEq, L9, and_true]
   exact ⟨fun ⟨h1, h2⟩ => ⟨h1, h2, by rw [h2]⟩, fun ⟨h1, h2, _⟩ => ⟨h1, h2⟩⟩
  | drop => exact (Zb3 (by decide) _ _).trans (decide_eq_false (fun h => by cases h)).symm
  | once => exact (Zb3 (by decide) _ _).trans (decide_eq_false (fun h => by cases h)).symm
  | add => exact (Zb3 (by decide) _ _).trans (decide_eq_false (fun h => by cases h)).symm
 | once nm ch => cases b with
  | once nm' ch' =>
   obtain ⟨_, rfl, _⟩ := ok1
   obtain ⟨_, rfl, _⟩ := ok2
   show (eqvP (.str [111, 110, 99, 101]) (.str [111, 110, 99, 101]) && (eqvP (.str nm) (.str nm') && true)) = _
   rw [Zcs, Zcs, decide_eq_true rfl, Q7]
   simp only [La, Lv, decide_eq_true_iff, Stg.once.injEq]
   exact ⟨fun h => ⟨h, by rw [h]⟩, fun h => h.1⟩
  | drop => exact (Zb3 (by decide) _ _).trans (decide_eq_false (fun h => by cases h)).symm
  | write => exact (Zb3 (by decide) _ _).trans (decide_eq_false (fun h => by cases h)).symm
  | add => exact (Zb3 (by decide) _ _).trans (decide_eq_false (fun h => by cases h)).symm
 | add x => cases b with
  | add x' =>
   show (eqvP (.str [97, 100, 100]) (.str [97, 100, 100]) && (eqvP (.str [x]) (.str [x']) && true)) = _
   rw [Zcs, Zcs, decide_eq_true rfl, Q7]
   simp only [La, Lv, decide_eq_true_iff, Stg.add.injEq, L9, and_true]
  | drop => exact (Zb3 (by decide) _ _).trans (decide_eq_false (fun h => by cases h)).symm
  | write => exact (Zb3 (by decide) _ _).trans (decide_eq_false (fun h => by cases h)).symm
  | once => exact (Zb3 (by decide) _ _).trans (decide_eq_false (fun h => by cases h)).symm
theorem Z76 {ls vw : List Nat} {st : Stg} {sts : List Stg} (ok : st.ok ls vw) (oks : Zc5 ls vw sts) : ((sts.map Stg.tup).any fun z => eqvP z st.tup) = decide (st ∈ sts) := by
 rw [To, Q7, Lb, decide_eq_true_iff]
 constructor
 ·rintro ⟨t, ht, e⟩
  have e' : eqvP t.tup st.tup = true := e
  rw [Zzo (oks t ht) ok] at e'
  exact of_decide_eq_true e' ▸ ht
 ·intro h
  exact ⟨st, h, by show eqvP st.tup st.tup = true; rw [Zzo ok ok]; exact decide_eq_true rfl⟩
theorem Zit : ∀ c ∈ Zj3, c < 1114112 := by decide +kernel
theorem Z0e : ∀ c ∈ small, c < 1114112 := by decide +kernel
theorem Zhk {z : List Nat} (h : ∀ c ∈ z, c < 1114112) (n : Nat) : (PV.str z).lay n = true := by
 cases n <;> exact Q8.mpr fun c hc => decide_eq_true (h c hc)
theorem Zwx {ls vw : List Nat} (sm : ∀ c ∈ ls, c ∈ small) {st : Stg} (ok : st.ok ls vw) : (Stg.tup st).lay 59 = true := by
 have sg : ∀ x, x ∈ 45 :: ls → ∀ c ∈ [x], c < 1114112 := fun x hx c hc => by
  rw [Qj.mp hc]
  rcases Qg.mp hx with h | h
  ·omega
  ·exact Z0e x (sm x h)
 cases st with
 | drop nm ch a e l =>
  have h := Zhk (fun c hc => Zit c (Zd7 ok.1 sm c hc)) 58
  show (PV.lay 58 (.str [100, 114, 111, 112]) && (PV.lay 58 (.str nm) && (PV.lay 58 (.int a) && (PV.lay 58 (.bl e) && (PV.lay 58 (.bl l) && true))))) = true
  rw [h]; rfl
 | write x nm ch =>
  have h := Zhk (fun c hc => Zit c (Zd7 ok.2.1 sm c hc)) 58
  have h2 := Zhk (sg x ok.1) 58
  show (PV.lay 58 (.str [119, 114, 105, 116, 101]) && (PV.lay 58 (.str [x]) && (PV.lay 58 (.str nm) && true))) = true
  rw [h, h2]; rfl
 | once nm ch =>
  have h := Zhk (fun c hc => Zit c (Zd7 ok.1 sm c hc)) 58
  show (PV.lay 58 (.str [111, 110, 99, 101]) && (PV.lay 58 (.str nm) && true)) = true
  rw [h]; rfl
 | add x =>
  have h2 := Zhk (sg x ok) 58
  show (PV.lay 58 (.str [97, 100, 100]) && (PV.lay 58 (.str [x]) && true)) = true
  rw [h2]; rfl
theorem Zsd {ls vw : List Nat} (sm : ∀ c ∈ ls, c ∈ small) : ∀ {sts : List Stg}, Zc5 ls vw sts → PV.layL 59 (sts.map Stg.tup) = true
 | [], _ => rfl
 | st :: sts, ok => by
  show (PV.lay 59 st.tup && PV.layL 59 (sts.map Stg.tup)) = true
  rw [Zwx sm (ok st Qo), Zsd sm fun t ht => ok t (Qk _ ht)]
  rfl
theorem Z3y {ls vw : List Nat} (sm : ∀ c ∈ ls, c ∈ small) {a b : Stg} (ok1 : a.ok ls vw) (ok2 : b.ok ls vw) (h : a.text = b.text) : a = b := by
 have h1 := Zlb ok1 sm
 rw [h, Zlb ok2 sm] at h1
 have h2 := Zqs ok1
 rw [← h1, Zqs ok2] at h2
 exact (Sum.inr.inj h2).symm
theorem Zu0 {ls vw : List Nat} (sm : ∀ c ∈ ls, c ∈ small) {sts : List Stg} (ok : Zc5 ls vw sts) (nd : sts.Nodup) : (sts.map Stg.text).Nodup := by
 rw [List.Nodup, Gm]
 exact nd.imp_of_mem fun ha hb hab e => hab (Z3y sm (ok _ ha) (ok _ hb) e)
def encT (r : List Stg) : PV := .lst (r.map Stg.tup)
theorem mny4 {n d : Nat} (hn : n ≤ 4) (hd : d ≤ 3) : mny n d ≤ 200 := by
 have h1 : ∀ n : Fin 5, ∀ d : Fin 4, mny n d ≤ 200 := by decide +kernel
 exact h1 ⟨n, by omega⟩ ⟨d, by omega⟩
theorem Zyn (ds : List D) (M : Mem) (Q : DQ) (E : DX) (h : Zgf ds M Q E) : Zhw { nx := fun _ M' => Zab M Q (.v .non) M', rt := Zab M Q } (Zac 3 ds) M := by
 obtain ⟨ls, vw, sts, d, rfl, ok, sm, hl, hd, nd, q⟩ := h
 show Zhw _ [some (.v (alph ls vw)), some (vL ((sts.map Stg.text).map PV.str)), some (vI d)] M
 unfold Zhw
 have hm : (lotR sts d).length ≤ 200 := by rw [Zcr]; exact mny4 hl hd
 have fin : ∀ ps : List PV, ps = (sts.map Stg.text).map PV.str → ∃ ws rs, .v (.cls .Lot) :: .v (alph ls vw) :: ps.map D.v = ws ++ rs.map D.v ∧ ws.length = 2 ∧ [vI (d : Int)].length = 1 ∧ rs.length ≤ sizeLine ∧ Za5 (catD ws [vI (d : Int)] ++ [.v (.tup rs)]) M (Zab M Q) noX := fun ps e => by
  refine ⟨[.v (.cls .Lot), .v (alph ls vw)], ps, rfl, rfl, rfl, by rw [e, Qb, Qb, sizeLine_eq]; omega, ?_⟩
  subst e
  exact ⟨ls, vw, sts, d, rfl, ok, sm, by omega, hd, nd, hm, Zad q⟩
 match sts, hl, fin with
 | [], _, fin =>
  walk_at "dz"
  exact fin [] rfl
 | [a], _, fin =>
  walk_at "dz"
  exact fin _ rfl
 | [a, b], _, fin =>
  walk_at "dz"
  exact fin _ rfl
 | [a, b, c], _, fin =>
  walk_at "dz"
  exact fin _ rfl
 | [a, b, c, e], _, fin =>
  walk_at "dz"
  exact fin _ rfl
 | _ :: _ :: _ :: _ :: _ :: _, h, _ => exact absurd h (by simp)
theorem Yg0 {M : Mem} {Q : DQ} {xs : List PV} (h : Q (vB true) M) : uIsi Zph (.ty "list") [vL xs, .v (.ty "list")] M Q := ⟨_, .t "list", true, rfl, rfl, rfl, h⟩
theorem Zvv {M : Mem} {l : List (List Nat)} : frz (M ++ [some (.lst (l.map fun y => vS y))]) (.cell M.length) = some (.lst (l.map PV.str), M ++ [none]) := by
 have e : (l.map fun y => vS y) = (l.map PV.str).map D.v := by rw [Qq]; rfl
 rw [e, Zrf (Qi ..), Zbe]
theorem Yag {α : Type} (a : List α) (x : α) : cut (a ++ [x]) none (some (-1)) = a := by
 unfold cut
 rw [show HT.sIx (a ++ [x]).length 0 none = 0 from rfl, show HT.sIx (a ++ [x]).length (a ++ [x]).length (some (-1)) = ((-1 : Int) + ((a ++ [x]).length : Nat)).toNat from rfl, List.drop_zero, Qc, Hn, show ((-1 : Int) + ((a.length + 1 : Nat) : Int)).toNat - 0 = a.length by omega]
 exact Hv rfl
def sts2 (ls vw : List Nat) : List Stg := [.once [97, 108, 108] (mem ls vw [97, 108, 108]), .add 45]
theorem Z8x (ds : List D) (M : Mem) (Q : DQ) (E : DX) (h : Z2h ds M Q E) : Z06 { nx := fun _ M' => Q (.v .non) M', rt := Q } (Zac 21 ds) M := by
 obtain ⟨ns, rfl, _, q⟩ := h
 show Z06 _ [some (.v (.scr ns)), none, none, none, none, none, none, none, none, none, none, none, none, none, none, none, none, none, none, none, none] M
 unfold Z06
 walk_at "dz"
 refine Yg1 fun c0 hc0 hb0 => ?_
 walk_at "dz"
 refine Z25 3 hb0 (by decide) (by decide) fun ls M1 ol asc l5 d1 hb1 => ?_
 walk_at "dz"
 refine Z5t hb1 (by omega) fun vw M2 sub d2 hb2 => ?_
 walk_at "dz"
 refine Yeg ol asc sub ?_
 have sm : ∀ c ∈ ls, c ∈ small := ol.1
 walk_at "dz"
 refine Zee hb2.app (by decide) (by decide) fun r M3 hr d3 hb3 => ?_
 obtain ⟨M4, rfl, d4⟩ := d3.app hb2.lt
 refine ⟨_, rfl, by omega, by omega, ?_⟩
 rw [Ha]
 have hl2 : M4.length = M2.length := d4.len
 refine Za9 (fun i ds M' => ∃ sts Mx v6 v7, M' = Mx ++ [some (.lst ((sts.map Stg.tup).map D.v))] ∧ Bd M.length M4 Mx ∧ Zc5 ls vw sts ∧ sts.Nodup ∧ sts.length ≤ i ∧ ds = [some (.v (.scr ns)), some (.cell M.length), some (vS ls), some (vS vw), some (.v (alph ls vw)), some (.cell M2.length), v6, v7, none, none, none, none, none, none, none, none, none, none, none, none, none]) ⟨[], M4, _, _, rfl, Bd.refl (d4.bg hb2), (fun _ h => nomatch h), H5, Qu _, rfl⟩ ?_ ?_
 ·rintro i x ds M' N hx ⟨sts, Mx, v6, v7, rfl, dx, ok, nd, hl, rfl⟩ hN
  have hi : i < r := by
   have := (Qa.mp hx).1
   rwa [Qb, Hc] at this
  have hbx : Bg Mx M.length := dx.bg (d4.bg hb2)
  have hlx : Mx.length = M2.length := by rw [dx.len, hl2]
  walk_at "dz"
  refine Yai vw hbx.app asc ol fun st M5 ok5 d5 hb5 => ?_
  obtain ⟨M6, rfl, d6⟩ := d5.app hbx.lt
  have hl6 : M6.length = M2.length := by rw [d6.len, hlx]
  have g6 : ∀ x : Option Cell, (M6 ++ [x])[M2.length]? = some x := fun x => by rw [← hl6]; exact Qi ..
  have s6 : ∀ x y : Option Cell, (M6 ++ [x]).set M2.length y = M6 ++ [y] := fun x y => by rw [← hl6]; exact Zbe
  walk_at "dz"
  refine Ydb (g6 _) (Zwx sm ok5) (Zsd sm ok) ?_
  rw [Z76 ok5 ok]
  by_cases hm : st ∈ sts
  ·rw [decide_eq_true hm]
   walk_at "dz"
   exact hN _ _ ⟨sts, M6, _, _, rfl, dx.trans d6, ok, nd, by omega, rfl⟩
  ·rw [decide_eq_false hm]
   walk_at "dz"
   refine Zvr (Z1l (g6 _)) ?_
   walk_at "dz"
   refine Z9o (g6 _) (by rw [Qb, Qb, sizeLine_eq]; omega) ?_
   rw [s6]
   refine hN _ _ ⟨sts ++ [st], M6, _, _, ?_, dx.trans d6, fun t h => ?_, ?_, by rw [Qc, Hn]; omega, rfl⟩
   ·rw [Qv, Qv]
    rfl
   ·rcases Q1.mp h with h | h
    ·exact ok t h
    ·rw [Qj.mp h]
     exact ok5
   ·rw [H9]
    exact ⟨nd, Hf.mpr ⟨(fun h => nomatch h), H5⟩, fun a ha b hb e => hm (by rw [Qj.mp hb] at e; exact e ▸ ha)⟩
 rintro ds M' ⟨sts, Mx, v6, v7, rfl, dx, ok, nd, hl, rfl⟩
 rw [Qb, Hc] at hl
 have hbx : Bg Mx M.length := dx.bg (d4.bg hb2)
 have hlx : Mx.length = M2.length := by rw [dx.len, hl2]
 have gx : ∀ x : Option Cell, (Mx ++ [x])[M2.length]? = some x := fun x => by rw [← hlx]; exact Qi ..
 have sx : ∀ x y : Option Cell, (Mx ++ [x]).set M2.length y = Mx ++ [y] := fun x y => by rw [← hlx]; exact Zbe
 refine ⟨_, _, _, rfl, Zrf (gx _), ?_⟩
 rw [sx]
 have htn := Zu0 sm ok nd
 simp only [Hg, Hr]
 walk_at "dz"
 rw [show (sts.map Stg.tup).map D.v = sts.map (fun s => D.v s.tup) from Qq ..]
 refine Zf5 (fun s => D.v (Stg.tup s)) sts (fun s => PV.str s.text) (show 7 < 21 by decide) (by rw [sizeLine_eq]; omega) (fun s hs Q' q' => ?_) ?_
 ·walk_at "dz"
  exact ⟨s, rfl, ⟨ls, vw, ok s hs⟩, q'⟩
 walk_at "dz"
 refine Zee hbx.app (by decide) (by decide) fun d M7 hd d7 hb7 => ?_
 obtain ⟨M8, rfl, d8⟩ := d7.app hbx.lt
 walk_at "dz"
 refine ⟨_, rfl, by omega, by omega, ?_⟩
 rw [Ha]
 refine Za9 (fun i ds M' => M' = M8 ++ [none] ∧ ∃ v7 v12 v13 v14, ds = [some (.v (.scr ns)), some (.cell M.length), some (vS ls), some (vS vw), some (.v (alph ls vw)), some (vL (sts.map Stg.tup)), v6, v7, some (vL (sts.map fun s => PV.str s.text)), some (vI d), some (vL ((lvl sts i).map encT)), some (vL ((lotR sts i).map encT)), v12, v13, v14, none, none, none, none, none, none]) ⟨rfl, _, _, _, _, rfl⟩ ?_ ?_
 ·rintro i x ds M' N hx ⟨rfl, v7', v12, v13, v14, rfl⟩ hN
  have hi : i < d := by
   have := (Qa.mp hx).1
   rwa [Qb, Hc] at this
  have p1 : mny sts.length (i + 1) ≤ 200 := mny4 (by omega) (by omega)
  have p2 : (lvl sts i).length * sts.length = sts.length ^ (i + 1) := by rw [Zd8]; rfl
  have p3 : sts.length ^ (i + 1) ≤ 200 := Hb (Nat.le_add_left _ _) p1
  walk_at "dz"
  refine Za9 (fun j ds M' => M' = M8 ++ [none] ∧ ∃ v7 v14, ds = [some (.v (.scr ns)), some (.cell M.length), some (vS ls), some (vS vw), some (.v (alph ls vw)), some (vL (sts.map Stg.tup)), v6, v7, some (vL (sts.map fun s => PV.str s.text)), some (vI d), some (vL ((lvl sts i).map encT)), some (vL ((lotR sts i).map encT)), some x, some (vL (((lvl sts i).take j).flatMap fun r => sts.map fun s => encT (r ++ [s]))), v14, none, none, none, none, none, none]) ⟨rfl, _, _, rfl⟩ ?_ ?_
  ·rintro j y ds M' N' hy ⟨rfl, v7'', v14', rfl⟩ hN'
   obtain ⟨row, hrow, rfl⟩ := Z07 hy
   walk_at "dz"
   rw [show (sts.map Stg.tup).map D.v = sts.map (fun s => D.v s.tup) from Qq ..]
   refine Zf5 (fun s => D.v (Stg.tup s)) sts (fun s => encT (row ++ [s])) (show 7 < 21 by decide) (by rw [sizeLine_eq]; omega) (fun s hs Q' q' => ?_) ?_
   ·walk_at "dz"
    have hrl := Zg2 (Qp hrow)
    refine Zm1 (by rw [Qb, hrl, sizeLine_eq]; simp only [Hn]; omega) ?_
    rw [show row.map Stg.tup ++ [s.tup] = (row ++ [s]).map Stg.tup by rw [Qv]; rfl]
    exact q'
   walk_at "dz"
   have hj := (Qa.mp hrow).1
   refine Zm1 ?_ ?_
   ·have e1 : (((lvl sts i).take j).flatMap fun r => sts.map fun s => encT (r ++ [s])).length = j * sts.length := by
     rw [List.length_flatMap]
     simp only [Qb]
     rw [List.map_const', Tf, Q5, Gv (by omega)]
    rw [e1, Qb, sizeLine_eq]
    have : j * sts.length ≤ (lvl sts i).length * sts.length := Ln _ (by omega)
    omega
   ·refine hN' _ _ ⟨rfl, v7'', some (D.v (encT row)), ?_⟩
    rw [Ht, hrow, Gi, List.flatMap_append, G7, L6, Qx]
    rfl
  ·rintro ds M' ⟨rfl, v7'', v14', rfl⟩
   rw [show ((lvl sts i).take (((lvl sts i).map encT).map D.v).length) = lvl sts i by rw [Qb, Qb]; exact Q9]
   have hlv : ((lvl sts i).flatMap fun r => sts.map fun s => encT (r ++ [s])) = (lvl sts (i + 1)).map encT := by
    show _ = ((lvl sts i).flatMap _).map _
    rw [Lc]
    congr 1
    funext r
    rw [Qq]
    rfl
   rw [hlv]
   walk_at "dz"
   refine Zm1 (by rw [Qb, Qb, Zcr, Zd8, sizeLine_eq]; have := Zga sts.length (by omega : i ≤ i + 1); omega) ?_
   rw [← Qv, ← Zmm]
   exact hN _ _ ⟨rfl, _, _, _, _, rfl⟩
 rintro ds M' ⟨rfl, v7', v12, v13, v14, rfl⟩
 rw [Qb, Hc]
 walk_at "dz"
 have hn4 : sts.length ≤ 4 := by omega
 have hd3 : d ≤ 3 := by omega
 refine ⟨ls, vw, sts, d, by rw [Qq]; rfl, ok, sm, hn4, hd3, htn, ?_⟩
 have hlm : (lotR sts d).length ≤ 200 := by rw [Zcr]; exact mny4 hn4 hd3
 have oks : ∀ r ∈ lotR sts d, Zc5 ls vw r ∧ r.length ≤ 10 := fun r hr => ⟨fun t ht => ok t ((Zje hr).2 t ht), by have := (Zje hr).1; omega⟩
 have asx : asc3 ((lotR sts d).map Zbg) := fun p hp => by
  obtain ⟨r, hr, rfl⟩ := Qz.mp hp
  exact Zsh (oks r hr).1 sm
 walk_at "dz"
 have c_len : ∀ {M' : Mem} {Q' : DQ}, Q' (vI ((lotR sts d).length : Nat)) M' → Zzj .Lot Ze3 [.v (lotP (alph ls vw) (lotR sts d))] M' Q' := fun h => ⟨_, _, rfl, rfl, _, _, rfl, _, rfl, by omega, h⟩
 refine c_len ?_
 walk_at "dz"
 have c_txt : ∀ {M' : Mem} {Q' : DQ}, Q' (.cell M'.length) (M' ++ [some (.lst (((lotR sts d).map Zbg).map fun y => vS y))]) → Zar [.v (lotP (alph ls vw) (lotR sts d))] M' Q' noX := fun h => ⟨_, ls, vw, _, rfl, oks, by omega, by rw [Qq] at h; exact h⟩
 refine c_txt ⟨_, _, Zvv, ?_⟩
 walk_at "dz"
 rw [show ((lotR sts d).map encT).map D.v = (lotR sts d).map (fun r => D.v (encT r)) from Qq ..]
 refine Zf5 (fun r => D.v (encT r)) (lotR sts d) (fun r => PV.str (Zbg r)) (show 14 < 21 by decide) (by rw [sizeLine_eq]; omega) (fun r hr Q' q' => ?_) ?_
 ·walk_at "dz"
  exact ⟨ls, vw, r, rfl, (oks r hr).1, sm, (oks r hr).2, q'⟩
 rw [show ((lotR sts d).map fun r => PV.str (Zbg r)) = ((lotR sts d).map Zbg).map PV.str from (Qq ..).symm]
 walk_at "dz"
 refine Z67 rfl rfl asx asx ?_
 rw [decide_eq_true rfl]
 walk_at "dz"
 refine Yg0 ?_
 walk_at "dz"
 refine ⟨_, _, rfl, rfl, ls, vw, ls, vw, rfl, _, rfl, ?_⟩
 rw [decide_eq_true rfl, decide_eq_true rfl]
 walk_at "dz"
 have hb8 : Bg M8 M.length := d8.bg hbx
 have hl0 : 0 < (lotR sts d).length := by rw [Zcr]; exact Lq (Nat.one_pos : 0 < mny sts.length 0) (Zga _ (Qr _))
 refine Zee hb8.app.app (by rw [Qb]; omega) (by rw [Qb]; omega) fun at_ M9 hat d9 hb9 => ?_
 rw [Qb] at hat
 walk_at "dz"
 rw [show [45] ++ ls = 45 :: ls from rfl]
 refine Yed 6 hb9 (by simp) (by rw [Qe]; omega) (by decide) fun z M10 hz lz d10 hb10 => ?_
 have wz : isW ls z = true := Ydr hz
 obtain ⟨row, hrow⟩ : ∃ row, (lotR sts d)[at_]? = some row := ⟨_, Qf (by omega)⟩
 have hrk := oks row (Qp hrow)
 walk_at "dz"
 refine Zei (atI_nat (Zqy hrow)) ?_
 walk_at "dz"
 refine ⟨⟨_, _, rfl⟩, ?_⟩
 walk_at "dz"
 refine ⟨ls, vw, row, z, rfl, hrk.1, hrk.2, by omega, (fun h => by rw [wz] at h; cases h), fun _ => ?_⟩
 walk_at "dz"
 have hdue : ((lotR sts d).map encT)[at_]? = some (encT row) := by rw [Qn, hrow]; rfl
 refine Zei (atI_nat hdue) ?_
 walk_at "dz"
 refine ⟨ls, vw, row, z, rfl, hrk.1, by omega, hrk.2, by omega, ?_⟩
 walk_at "dz"
 refine c_txt ?_
 walk_at "dz"
 refine Zvr Zjd ?_
 walk_at "dz"
 refine Ztw (by rw [Qb, Qb, sizeLine_eq]; omega) ?_
 walk_at "dz"
 refine c_txt ⟨_, _, Zvv, ?_⟩
 walk_at "dz"
 have gk : (M10 ++ [some (Cell.lst ((((lotR sts d).map Zbg).map fun y => vS y) ++ [vS [107, 101, 101, 112]]))] ++ [none])[M10.length]? = some (some (Cell.lst ((((lotR sts d).map Zbg ++ [[107, 101, 101, 112]]).map PV.str).map D.v))) := by
  have e : (((lotR sts d).map Zbg).map fun y => vS y) = (((lotR sts d).map Zbg).map PV.str).map D.v := by rw [Qq, Qq, Qq]; rfl
  rw [Qy (by rw [Qc]; exact Nat.lt_succ_self _), Qi, e, Qv, Qv]
  rfl
 refine Or.inr (Or.inr (Or.inr ⟨_, _, _, rfl, gk, Zby _, ?_⟩))
 rw [Qv, show [[107, 101, 101, 112]].map PV.str = [PV.str [107, 101, 101, 112]] from rfl, Yag]
 refine Z67 rfl rfl asx asx ?_
 rw [decide_eq_true rfl]
 walk_at "dz"
 refine c_len ?_
 walk_at "dz"
 have ok2 : Zc5 ls vw (sts2 ls vw) := fun t ht => by
  rcases Qg.mp ht with rfl | ht
  ·exact ⟨Or.inl rfl, rfl, by decide⟩
  ·rw [Qj.mp ht]
   exact Qo
 refine ⟨[.v (.cls .Lot), .v (alph ls vw)], [.str [111, 110, 99, 101, 32, 97, 108, 108], .str [97, 100, 100, 32, 45]], rfl, rfl, rfl, by simp [sizeLine_eq], ls, vw, sts2 ls vw, 2, rfl, ok2, sm, (show 2 ≤ 1000 by decide), by decide, (show List.Nodup [[111, 110, 99, 101, 32, 97, 108, 108], [97, 100, 100, 32, 45]] by decide), by rw [Zcr]; exact mny4 (show 2 ≤ 4 by decide) (by decide), ?_⟩
 have oks2 : ∀ r ∈ lotR (sts2 ls vw) 2, Zc5 ls vw r ∧ r.length ≤ 10 := fun r hr => ⟨fun t ht => ok2 t ((Zje hr).2 t ht), by have := (Zje hr).1; omega⟩
 have asx2 : asc3 ((lotR (sts2 ls vw) 2).map Zbg) := fun p hp => by
  obtain ⟨r, hr, rfl⟩ := Qz.mp hp
  exact Zsh (oks2 r hr).1 sm
 walk_at "dz"
 refine ⟨_, ls, vw, _, rfl, oks2, by rw [Zcr]; exact Hb (mny4 (show 2 ≤ 4 by decide) (by decide)) (by decide), ?_⟩
 rw [show ((lotR (sts2 ls vw) 2).map fun r => vS (Zbg r)) = ((lotR (sts2 ls vw) 2).map Zbg).map (fun y => vS y) from (Qq ..).symm]
 refine ⟨_, _, Zvv, ?_⟩
 walk_at "dz"
 refine Zm1 (by simp [sizeLine_eq]) ?_
 walk_at "dz"
 refine Z17 (as := (lotR (sts2 ls vw) 2).map Zbg) (bs := (lotR (sts2 ls vw) 2).map Zbg) rfl rfl asx2 asx2 ?_
 rw [decide_eq_true rfl]
 exact q _
end Cl.Kl
set_option synthInstance.maxSize 1000000
set_option synthInstance.maxHeartbeats 4000000
namespace Cl.Kl
open PySem PySem.Spec PyProof.Rows L2 He ClX
local macro_rules | `(tactic| walk_at "sa") => `(tactic| repeat' (first | with_reducible exact Zah | with_reducible exact Zl1 | with_reducible exact Zde | with_reducible exact Zho | with_reducible exact Z8e | with_reducible exact Zz1 | with_reducible exact Zow | with_reducible exact Z35 | with_reducible exact Zpz | exact Zp4 fun _ => rfl | with_reducible apply Zhp | with_reducible apply Zhn | with_reducible apply Zao | with_reducible apply Zl6 | with_reducible apply Zf8 | with_reducible apply Zgu | with_reducible apply Zen | with_reducible apply Z0q | with_reducible apply Zl3 | with_reducible apply Zpr | with_reducible apply Zdf | with_reducible apply Zl4 | with_reducible apply Zvb | with_reducible apply Z0f | with_reducible apply Zu9 | with_reducible apply Zpu | with_reducible apply Zpw | with_reducible apply Zp6 | with_reducible apply Zp0 | with_reducible apply Zl2 | with_reducible apply Zpx | with_reducible apply Z8b | with_reducible apply Zp3 | with_reducible apply Zl0 | with_reducible apply Zu8 | with_reducible apply Z8c | with_reducible apply Zst | with_reducible apply Z0o | with_reducible apply Zva | with_reducible apply Zps | with_reducible apply Z0h | with_reducible apply Zzv | with_reducible apply Z8f | with_reducible apply Zu7 | with_reducible apply Z0i | with_reducible apply Zpq | with_reducible apply Z8k | with_reducible apply Z8g | with_reducible apply Z8m | with_reducible apply Z0g | with_reducible apply Zp5 | with_reducible apply Zpv | with_reducible apply Zpy | with_reducible apply Ziv | with_reducible apply Zpp | with_reducible apply Z34 | with_reducible apply Zz2 | with_reducible apply Z8d | with_reducible apply Zw6 | with_reducible apply Zpm | with_reducible apply Zu5 | with_reducible apply Z8h | with_reducible apply Zz8 | with_reducible apply Zz6 | with_reducible apply Zl5 | with_reducible apply Zlc | with_reducible apply Zzz | with_reducible apply Zz9 | with_reducible apply Z8i | with_reducible apply Z8l | with_reducible apply Z38 | with_reducible apply Z0c | with_reducible apply Zzy | with_reducible apply Z0n))
local macro_rules | `(tactic| walk_at "qs1") => `(tactic| (first | apply Z0k | apply Zw6 | apply Zyg | apply Z37 | fail))
local macro_rules | `(tactic| walk_at "qs1") => `(tactic| (first | apply Zao | apply Zgu | apply Zen | apply Zdf | apply Zl6 | apply Zl4 | apply Zb7 | apply Zp3 | fail))
local macro_rules | `(tactic| walk_at "qs2") => `(tactic| (first | with_reducible apply Zsx | with_reducible apply Z6h | with_reducible apply Z6l | with_reducible apply Zo1 | with_reducible apply Zox | with_reducible apply Zsw | with_reducible apply Zsz | with_reducible apply Z0m | fail))
local macro_rules | `(tactic| walk_at "qs2") => `(tactic| (first | with_reducible apply Z0h | with_reducible apply Zl5 | with_reducible apply Z6g | with_reducible apply Z0p | with_reducible apply Zw7 | with_reducible apply Zss | with_reducible apply Zsy | with_reducible apply Zsv | fail))
local macro_rules | `(tactic| walk_at "qs2") => `(tactic| (first | with_reducible apply Zp0 | with_reducible apply Zpt | with_reducible apply Z6e | with_reducible apply Z0l | with_reducible apply Zpu | with_reducible apply Zp5 | with_reducible apply Zo0 | with_reducible apply Zw5 | fail))
local macro_rules | `(tactic| walk_at "qs2") => `(tactic| (first | with_reducible apply Zw8 | with_reducible apply Z0o | with_reducible apply Zfc | with_reducible apply Zvb | with_reducible apply Zva | with_reducible apply Z6j | with_reducible apply Z6m | with_reducible apply Z0i | fail))
local macro_rules | `(tactic| walk_at "qs2") => `(tactic| (first | with_reducible apply Zah | with_reducible apply Z6k | with_reducible apply Zhn | with_reducible apply Z6i | with_reducible apply Z0q | with_reducible apply Zu9 | with_reducible apply Zpr | with_reducible apply Zp1 | fail))
local macro_rules | `(tactic| walk_at "qs3") => `(tactic| with_reducible apply Zw4)
local macro_rules | `(tactic| walk_at "qs3") => `(tactic| with_reducible apply Zl1)
local macro_rules | `(tactic| walk_at "qs3") => `(tactic| with_reducible apply Zhp)
local macro_rules | `(tactic| walk_at "qs4") => `(tactic| (first | with_reducible apply Zb7 | with_reducible apply Zet | with_reducible apply Zoz | with_reducible apply Zoy | with_reducible apply Z6f | with_reducible apply Zw9 | with_reducible apply Zsu | fail))
local macro_rules | `(tactic| walk_at "qs4") => `(tactic| (first | with_reducible apply Zao | with_reducible apply Zl6 | with_reducible apply Zen | with_reducible apply Zgu | with_reducible apply Zde | with_reducible apply Zp3 | with_reducible apply Zdf | with_reducible apply Zl4 | fail))
local macro_rules | `(tactic| walk_at "qs5") => `(tactic| (first | with_reducible apply Z6b | with_reducible apply Zz7 | with_reducible apply Z6a | with_reducible apply Z0a | with_reducible apply Z0b | fail))
local macro_rules | `(tactic| walk_at "qs5") => `(tactic| (first | with_reducible apply Zpq | with_reducible apply Z34 | with_reducible apply Z8d | with_reducible apply Z8h | with_reducible apply Zpp | with_reducible apply Zz8 | with_reducible apply Zz9 | with_reducible apply Z0c | fail))
local macro_rules | `(tactic| walk_at "qs5") => `(tactic| (first | with_reducible apply Z8e | with_reducible apply Zow | with_reducible apply Z35 | with_reducible apply Zz6 | with_reducible apply Z8c | with_reducible apply Z8b | with_reducible apply Z8g | with_reducible apply Z8f | fail))
local macro_rules | `(tactic| walk_at "qs6") => `(tactic| with_reducible apply Zu8)
local macro_rules | `(tactic| walk_at "qs6") => `(tactic| with_reducible apply Zst)
local macro_rules | `(tactic| walk_at "qs6") => `(tactic| with_reducible apply Zp6)
local macro_rules | `(tactic| walk_at "qs6") => `(tactic| with_reducible apply Zl0)
local macro_rules | `(tactic| walk_at "qs6") => `(tactic| with_reducible apply Zlz)
local macro_rules | `(tactic| walk_at "qs6") => `(tactic| with_reducible apply Zf8)
local macro_rules | `(tactic| walk_at "qs7") => `(tactic| (first | with_reducible apply Zz0 | fail))
local macro_rules | `(tactic| walk_at "qs7") => `(tactic| (first | with_reducible apply Zz1 | with_reducible apply kIsi | with_reducible apply Zz2 | with_reducible apply Zu5 | with_reducible apply Zpm | with_reducible apply Zzz | with_reducible apply Zzy | with_reducible apply Zz3 | fail))
local macro_rules | `(tactic| walk_at "qs8") => `(tactic| with_reducible apply Z6c)
local macro_rules | `(tactic| walk_at "qs8") => `(tactic| with_reducible apply Zw3)
local macro_rules | `(tactic| walk_at "qs8") => `(tactic| with_reducible apply Zu7)
local macro_rules | `(tactic| walk_at "qs8") => `(tactic| with_reducible apply Z0f)
local macro_rules | `(tactic| walk_at "qs9") => `(tactic| apply Zkr)
local macro_rules | `(tactic| walk_at "qs9") => `(tactic| assumption)
local macro_rules | `(tactic| walk_at "qs10") => `(tactic| (first | (with_reducible apply gEq); rfl | fail))
local macro_rules | `(tactic| walk_at "qs10") => `(tactic| (first | with_reducible apply Zuo.cons | with_reducible apply Zuo.nil | with_reducible apply Zup.cons | with_reducible apply Zup.nil | with_reducible apply Zwe.cons | with_reducible apply Zwe.nil | with_reducible apply rlN | with_reducible apply Zxv | fail))
local macro_rules | `(tactic| walk_at "qs10") => `(tactic| (first | with_reducible apply Zlc | with_reducible apply Zps | with_reducible apply Ziv | with_reducible apply Z8k | with_reducible apply Zty | with_reducible apply Z6d | with_reducible apply Zpy | with_reducible apply Zzv | fail))
local macro_rules | `(tactic| walk_at "qs10") => `(tactic| (first | ((with_reducible apply kMem); decide +kernel) | with_reducible apply Zho | with_reducible apply Zl3 | with_reducible apply Zpz | with_reducible apply Zpx | with_reducible apply Zl2 | with_reducible apply Zpw | with_reducible apply Zpv | fail))
local macro_rules | `(tactic| walk_at "qs10") => `(tactic| (first | ((with_reducible apply gsE); walk_at "qs2") | ((with_reducible apply gsA); walk_at "qs3") | ((with_reducible apply gsS); walk_at "qs4") | ((with_reducible apply gsO); walk_at "qs5") | ((with_reducible apply gsT); walk_at "qs6") | ((with_reducible apply gsR); walk_at "qs7") | ((with_reducible apply gsM); walk_at "qs8") | ((with_reducible apply gPo); walk_at "qs9") | fail))
local macro_rules | `(tactic| walk_at "ks") => `(tactic| ((walk_at "qs1"); all_goals repeat' (walk_at "qs10")))
local macro_rules | `(tactic| walk_at "qd1") => `(tactic| kernel_rfl)
local macro_rules | `(tactic| walk_at "qd1") => `(tactic| rfl)
local macro_rules | `(tactic| walk_at "qd1") => `(tactic| (with_reducible apply gOk; kernel_rfl))
local macro_rules | `(tactic| walk_at "qd1") => `(tactic| (with_reducible apply gSt; kernel_rfl))
local macro_rules | `(tactic| walk_at "qd2") => `(tactic| (first | with_reducible apply Ygj | with_reducible apply Yfq | with_reducible apply pe_fmt | with_reducible apply Ygi | with_reducible apply Ydi | with_reducible apply kPop | with_reducible apply Z9r | with_reducible apply Ydo | fail))
local macro_rules | `(tactic| walk_at "qd2") => `(tactic| (first | with_reducible apply pe_one | with_reducible apply pe_un | with_reducible apply pe_slice | with_reducible apply kCT | with_reducible apply pe_disp | with_reducible apply Ygf | with_reducible apply Ygg | with_reducible apply Ydm | fail))
local macro_rules | `(tactic| walk_at "qd2") => `(tactic| (first | with_reducible apply Ydl | with_reducible apply Yge | with_reducible apply kLc | with_reducible apply pe_ifExp | with_reducible apply kGlo | with_reducible apply kBlt | with_reducible apply Ygk | with_reducible apply pe_and | fail))
local macro_rules | `(tactic| walk_at "qd2") => `(tactic| (first | with_reducible apply pe_cmpR | with_reducible apply pe_lst | with_reducible apply pe_tup | with_reducible apply Ygl | with_reducible apply pe_bl | with_reducible apply pe_non | with_reducible apply kApp | with_reducible apply Ygd | fail))
local macro_rules | `(tactic| walk_at "qd2") => `(tactic| (first | ((with_reducible apply Ydn); rfl) | with_reducible apply kV | with_reducible apply pe_int | with_reducible apply kFld | with_reducible apply pe_ix | with_reducible apply Zg0 | with_reducible apply kCB | with_reducible apply pe_op | fail))
local macro_rules | `(tactic| walk_at "qd3") => `(tactic| with_reducible apply StX.pa_star)
local macro_rules | `(tactic| walk_at "qd3") => `(tactic| with_reducible apply pa_nil)
local macro_rules | `(tactic| walk_at "qd3") => `(tactic| with_reducible apply pa_cons)
local macro_rules | `(tactic| walk_at "qd4") => `(tactic| with_reducible apply pss_nil)
local macro_rules | `(tactic| walk_at "qd4") => `(tactic| with_reducible apply pss_cons)
local macro_rules | `(tactic| walk_at "qd4") => `(tactic| with_reducible apply pss_one)
local macro_rules | `(tactic| walk_at "qd5") => `(tactic| (first | with_reducible apply kStF | with_reducible apply Ygc | with_reducible apply kAug | with_reducible apply Cl.ps_never | with_reducible apply ps_try_thru0 | fail))
local macro_rules | `(tactic| walk_at "qd5") => `(tactic| (first | ((with_reducible apply Ydj); rfl) | ((with_reducible apply Z9p); rfl) | with_reducible apply kSet | with_reducible apply ps_ret | with_reducible apply ps_if | with_reducible apply ps_expr | with_reducible apply ps_for | with_reducible apply ps_asg | fail))
local macro_rules | `(tactic| walk_at "qd6") => `(tactic| with_reducible apply pt_chain)
local macro_rules | `(tactic| walk_at "qd6") => `(tactic| with_reducible apply kPw)
local macro_rules | `(tactic| walk_at "qd6") => `(tactic| with_reducible apply pt_not)
local macro_rules | `(tactic| walk_at "qd6") => `(tactic| with_reducible apply kTru)
local macro_rules | `(tactic| walk_at "qd6") => `(tactic| with_reducible apply pt_cmpR)
local macro_rules | `(tactic| walk_at "qd7") => `(tactic| first | exact Or.inr rfl | fail)
local macro_rules | `(tactic| walk_at "qd7") => `(tactic| first | exact Or.inl rfl | fail)
local macro_rules | `(tactic| walk_at "qd8") => `(tactic| first | exact Or.inr (Or.inr rfl) | fail)
local macro_rules | `(tactic| walk_at "qd8") => `(tactic| first | exact Or.inr (Or.inl rfl) | fail)
local macro_rules | `(tactic| walk_at "qd8") => `(tactic| first | exact Or.inl rfl | fail)
local macro_rules | `(tactic| walk_at "qd9") => `(tactic| first | exact Or.inr rfl | fail)
local macro_rules | `(tactic| walk_at "qd9") => `(tactic| first | exact Or.inl rfl | fail)
local macro_rules | `(tactic| walk_at "qd10") => `(tactic| first | exact passes_call (takes_of rfl rfl rfl rfl) (fun _ _ _ _ h => h) | fail)
local macro_rules | `(tactic| walk_at "qd10") => `(tactic| first | exact passL | fail)
local macro_rules | `(tactic| walk_at "qd11") => `(tactic| first | exact hu1 (by assumption) | fail)
local macro_rules | `(tactic| walk_at "qd11") => `(tactic| first | exact hu65 (by assumption) | fail)
local macro_rules | `(tactic| walk_at "qd11") => `(tactic| first | exact hu64 (by assumption) | fail)
local macro_rules | `(tactic| walk_at "qd12") => `(tactic| first | exact ⟨_, rfl⟩ | fail)
local macro_rules | `(tactic| walk_at "qd12") => `(tactic| rfl)
local macro_rules | `(tactic| walk_at "qd13") => `(tactic| first | exact PassesOwn.never | fail)
local macro_rules | `(tactic| walk_at "qd13") => `(tactic| first | exact PassesOwn.leaving | fail)
local macro_rules | `(tactic| walk_at "qd14") => `(tactic| (first | with_reducible apply kEqI | with_reducible apply kNeI | with_reducible apply Z9q | with_reducible apply Z47 | fail))
local macro_rules | `(tactic| walk_at "qd14") => `(tactic| (first | with_reducible apply Zte | with_reducible apply Z82 | with_reducible apply Yfu | with_reducible apply Yb5 | with_reducible apply Yb8 | with_reducible apply Yb9 | with_reducible apply Ycb | with_reducible apply Yb6 | fail))
local macro_rules | `(tactic| walk_at "qd14") => `(tactic| (first | with_reducible apply kEq | with_reducible apply Yfr | with_reducible apply kNe | with_reducible apply Yfs | with_reducible apply Z4j | with_reducible apply kIn | with_reducible apply Yca | with_reducible apply Ydk | fail))
local macro_rules | `(tactic| walk_at "qd15") => `(tactic| (first | with_reducible apply Yd9 | fail))
local macro_rules | `(tactic| walk_at "qd15") => `(tactic| (first | with_reducible apply Zrv | with_reducible apply Yeb | with_reducible apply Yac | with_reducible apply Z5p | with_reducible apply Zy1 | with_reducible apply Yad | with_reducible apply Yaa | with_reducible apply Ygh | fail))
local macro_rules | `(tactic| walk_at "qd16") => `(tactic| (first | ((with_reducible apply gOp); walk_at "qd14") | ((with_reducible apply gCa); walk_at "qd15") | first | with_reducible exact kHm | fail | first | exact gn1 (by decide +kernel) | fail | ((with_reducible apply gFa); (intro _; kernel_rfl)) | ((with_reducible apply gFa2); (intro _ _; kernel_rfl)) | ((with_reducible apply gAll); intro _ _ _ _ _) | fail))
local macro_rules | `(tactic| walk_at "qd16") => `(tactic| (first | with_reducible apply pk_nil | with_reducible apply pps_cons | with_reducible apply pps_nil | with_reducible apply Yev | with_reducible apply sl_tup | with_reducible apply Yb7 | with_reducible apply Ygn | with_reducible apply kIxT | fail))
local macro_rules | `(tactic| walk_at "qd16") => `(tactic| (first | with_reducible apply PJ.cons | with_reducible apply PJ.nil | with_reducible apply PCs.cons | with_reducible apply po_some | with_reducible apply po_none | with_reducible apply pg_sub | with_reducible apply set_list | with_reducible apply pk_cons | fail))
local macro_rules | `(tactic| walk_at "qd16") => `(tactic| (first | with_reducible apply pgs_cons | with_reducible apply pgs_nil | with_reducible apply pi_list | with_reducible apply kRg1 | with_reducible apply pi_str | with_reducible apply pi_tup | with_reducible apply pts_nil | with_reducible apply pts_one | fail))
local macro_rules | `(tactic| walk_at "qd16") => `(tactic| (first | first | with_reducible exact gNL | fail | ((with_reducible apply gPx); (intro _ _; kernel_rfl)) | with_reducible apply pw_and | with_reducible apply pw_and1 | with_reducible apply pw_or | with_reducible apply pw_or1 | with_reducible apply kGn | with_reducible apply pg_tup | fail))
local macro_rules | `(tactic| walk_at "qd16") => `(tactic| (first | ((with_reducible apply gPas); walk_at "qd10") | ((with_reducible apply gNe); decide +kernel) | (first | ((with_reducible apply gTak); exact takes_of rfl rfl rfl rfl) | fail) | ((with_reducible apply gNd); assumption) | (first | ((with_reducible apply gM2); exact ⟨rfl, rfl, rfl, rfl⟩) | fail) | ((with_reducible apply gLt); walk_at "qd11") | ((with_reducible apply gRl); walk_at "qd12") | ((with_reducible apply gPO); walk_at "qd13") | fail))
local macro_rules | `(tactic| walk_at "qd16") => `(tactic| (first | ((with_reducible apply gPS); walk_at "qd5") | ((with_reducible apply gPT); walk_at "qd6") | ((with_reducible apply gOr); walk_at "qd7") | ((with_reducible apply gVis); walk_at "qd8") | ((with_reducible apply gLoc); walk_at "qd9") | ((with_reducible apply gGl); kernel_rfl) | ((with_reducible apply Ygr); assumption) | ((with_reducible apply gLe); decide) | fail))
local macro_rules | `(tactic| walk_at "qd16") => `(tactic| (first | ((with_reducible apply gBt); kernel_rfl) | ((with_reducible apply gBf); first | kernel_rfl) | ((with_reducible apply gLe2); kernel_rfl) | ((with_reducible apply gOs); kernel_rfl) | ((with_reducible apply gEq); walk_at "qd1") | ((with_reducible apply gPE); walk_at "qd2") | ((with_reducible apply gPA); walk_at "qd3") | ((with_reducible apply gPSs); walk_at "qd4") | fail))
local macro_rules | `(tactic| walk_at "kd") => `(tactic| repeat' (walk_at "qd16"))
local macro_rules | `(tactic| walk_at "sc") => `(tactic| exact ⟨rfl, rfl, rfl, by decide +kernel, rfl, by decide +kernel, by decide +kernel⟩)
local macro_rules | `(tactic| walk_at "b1") => `(tactic| exact fun _ _ _ _ _ _ us hl => match us, hl with | [_], _ => rfl)
local macro_rules | `(tactic| walk_at "b2") => `(tactic| exact fun _ _ _ _ _ _ us hl => match us, hl with | [_, _], _ => rfl)
local macro_rules | `(tactic| walk_at "b3") => `(tactic| exact fun _ _ _ _ _ _ us hl => match us, hl with | [_, _, _], _ => rfl)
local macro_rules | `(tactic| walk_at "b4") => `(tactic| exact fun _ _ _ _ _ _ us hl => match us, hl with | [_, _, _, _], _ => rfl)
local macro_rules | `(tactic| walk_at "b5") => `(tactic| exact fun _ _ _ _ _ _ us hl => match us, hl with | [_, _, _, _, _], _ => rfl)
local macro_rules | `(tactic| walk_at "b6") => `(tactic| exact fun _ _ _ _ _ _ us hl => match us, hl with | [_, _, _, _, _, _], _ => rfl)
local macro_rules | `(tactic| walk_at "b7") => `(tactic| exact fun _ _ _ _ _ _ us hl => match us, hl with | [_, _, _, _, _, _, _], _ => rfl)
local macro_rules | `(tactic| walk_at "b8") => `(tactic| exact fun _ _ _ _ _ _ us hl => match us, hl with | [_, _, _, _, _, _, _, _], _ => rfl)
local macro_rules | `(tactic| walk_at "k2") => `(tactic| ((first | (with_reducible apply Zo3) | apply pss_one | apply pss_cons); all_goals walk_at "kd"))
local macro_rules | `(tactic| walk_at "kk") => `(tactic| first | (intro _ _ _ _ _ _ _ _ _ _ _ hpo; haveI := SmX.mk hpo; refine exSf ?_; walk_at "k2") | (intro _ _ _ _ _ _ _ _ _ _ _ _; apply exS; walk_at "ks"; (case' h2 => (first | (with_reducible apply Zo3) | apply pss_one | apply pss_cons)); all_goals walk_at "kd"))
class FT (w : outParam World) (K : outParam PySem.W.Frag) (mg : outParam (Str → Option Value)) : Prop where
 t : Facts w K mg
section
variable {w : World} {K : PySem.W.Frag} {mg : Str → Option Value} {base : Heap} [T : FT w K mg]
instance : KGl mg "Add" (some (.ref (ga K "Add"))) := ⟨(T.t.g 0 rfl)⟩
instance : KGl mg "Alphabet" (some (.ref (ga K "Alphabet"))) := ⟨(T.t.g 1 rfl)⟩
instance : KGl mg "BadAlphabet" (some (.ref (ga K "BadAlphabet"))) := ⟨(T.t.g 2 rfl)⟩
instance : KGl mg "BadStage" (some (.ref (ga K "BadStage"))) := ⟨(T.t.g 4 rfl)⟩
instance : KGl mg "BadWord" (some (.ref (ga K "BadWord"))) := ⟨(T.t.g 5 rfl)⟩
instance : KGl mg "Drop" (some (.ref (ga K "Drop"))) := ⟨(T.t.g 7 rfl)⟩
instance : KGl mg "LastDrop" (some (.ref (ga K "LastDrop"))) := ⟨(T.t.g 8 rfl)⟩
instance : KGl mg "Lot" (some (.ref (ga K "Lot"))) := ⟨(T.t.g 9 rfl)⟩
instance : KGl mg "NUMBERS" (some (.ref (ga K "NUMBERS"))) := ⟨(T.t.g 11 rfl)⟩
instance : KGl mg "Once" (some (.ref (ga K "Once"))) := ⟨(T.t.g 12 rfl)⟩
instance : KGl mg "Rule" (some (.ref (ga K "Rule"))) := ⟨(T.t.g 13 rfl)⟩
instance : KGl mg "Write" (some (.ref (ga K "Write"))) := ⟨(T.t.g 14 rfl)⟩
instance : KNb mg "bool" (.type "bool") := ⟨(T.t.n 33 rfl), by decide +kernel⟩
instance : KNb mg "int" (.type "int") := ⟨(T.t.n 34 rfl), by decide +kernel⟩
instance : KNb mg "isinstance" (.builtin "isinstance") := ⟨(T.t.n 35 rfl), by decide +kernel⟩
instance : KNb mg "len" (.builtin "len") := ⟨(T.t.n 36 rfl), by decide +kernel⟩
instance : KNb mg "list" (.type "list") := ⟨(T.t.n 37 rfl), by decide +kernel⟩
instance : KNb mg "range" (.type "range") := ⟨(T.t.n 38 rfl), by decide +kernel⟩
instance : KNb mg "set" (.type "set") := ⟨(T.t.n 39 rfl), by decide +kernel⟩
instance : KNb mg "sorted" (.builtin "sorted") := ⟨(T.t.n 40 rfl), by decide +kernel⟩
instance : KNb mg "str" (.type "str") := ⟨(T.t.n 41 rfl), by decide +kernel⟩
instance : KMk K .Drop (fAd K ("Drop", some "__init__")) := ⟨(T.t.mk' 88 rfl)⟩
instance : KMk K .LastDrop (fAd K ("LastDrop", some "__init__")) := ⟨(T.t.mk' 89 rfl)⟩
instance : KMk K .Add (fAd K ("Add", some "__init__")) := ⟨(T.t.mk' 90 rfl)⟩
instance : KMk K .Once (fAd K ("Once", some "__init__")) := ⟨(T.t.mk' 91 rfl)⟩
instance : KMk K .Write (fAd K ("Write", some "__init__")) := ⟨(T.t.mk' 92 rfl)⟩
instance : KMk K .Lot (fAd K ("Lot", some "__init__")) := ⟨(T.t.mk' 93 rfl)⟩
instance : KMk K .Rule (fAd K ("Rule", some "__init__")) := ⟨(T.t.mk' 94 rfl)⟩
instance : KMk K .Alphabet (fAd K ("Alphabet", some "__init__")) := ⟨(T.t.mk' 95 rfl)⟩
instance : KSp K .Alphabet "__eq__" (fAd K ("Alphabet", some "__eq__")) := ⟨(T.t.me 96 rfl)⟩
instance : KSp K .Lot "__len__" (fAd K ("Lot", some "__len__")) := ⟨(T.t.me 97 rfl)⟩
instance : KGl mg "SMALL" (some (.str (S [97, 98, 99, 100, 101, 102, 103, 104, 105, 106, 107, 108, 109, 110, 111, 112, 113, 114, 115, 116, 117, 118, 119, 120, 121, 122]) (T.t.s 98 rfl).choose)) := ⟨(T.t.s 98 rfl).choose_spec⟩
instance : KGl mg "SEPARATOR" (some (.str (S [59, 32]) (T.t.s 99 rfl).choose)) := ⟨(T.t.s 99 rfl).choose_spec⟩
instance : KGl mg "EMPTY" (some (.str (S [107, 101, 101, 112]) (T.t.s 100 rfl).choose)) := ⟨(T.t.s 100 rfl).choose_spec⟩
instance : KGl mg "DEEPEST" (some (.int (3) (T.t.int 102 rfl).choose)) := ⟨(T.t.int 102 rfl).choose_spec⟩
instance : KCv K mg "Alphabet" "JOINT" (sv [45]) := ⟨_, (T.t.g 1 rfl), (T.t.cr 0 rfl), (T.t.cv 0 rfl)⟩
instance : KCv K mg "Alphabet" "MOST" (.int 8) := ⟨_, (T.t.g 1 rfl), (T.t.cr 0 rfl), (T.t.cv 1 rfl)⟩
instance : KCv K mg "Lot" "MOST" (.int 200) := ⟨_, (T.t.g 9 rfl), (T.t.cr 1 rfl), (T.t.cv 3 rfl)⟩
instance : KNe K .Alphabet := ⟨(T.t.ne 0 rfl)⟩
instance : KTb K w NUMS "NUMBERS" := ⟨(T.t.tb 0 rfl rfl)⟩
theorem csok (T : Facts w K mg) : CsOk K cs_ := by
 refine ⟨fun c h => ?_, fun c h f hf => ?_⟩
 ·simp only [cs_, Qg, Qm, or_false] at h
  rcases h with rfl | rfl | rfl | rfl | rfl | rfl | rfl | rfl
  ·exact (T.cl 80 rfl)
  ·exact (T.cl 81 rfl)
  ·exact (T.cl 82 rfl)
  ·exact (T.cl 83 rfl)
  ·exact (T.cl 84 rfl)
  ·exact (T.cl 85 rfl)
  ·exact (T.cl 86 rfl)
  ·exact (T.cl 87 rfl)
 ·simp only [cs_, Qg, Qm, or_false] at h
  rcases h with rfl | rfl | rfl | rfl | rfl | rfl | rfl | rfl
  ·simp only [Cn.flds, Qg, Qm, or_false] at hf
   rcases hf with rfl | rfl | rfl | rfl
   ·exact (T.no 53 rfl)
   ·exact (T.no 54 rfl)
   ·exact (T.no 55 rfl)
   ·exact (T.no 56 rfl)
  ·simp only [Cn.flds, Qg, Qm, or_false] at hf
   rcases hf with rfl | rfl | rfl | rfl | rfl
   ·exact (T.no 57 rfl)
   ·exact (T.no 58 rfl)
   ·exact (T.no 59 rfl)
   ·exact (T.no 60 rfl)
   ·exact (T.no 61 rfl)
  ·simp only [Cn.flds, Qg, Qm, or_false] at hf
   rcases hf with rfl | rfl | rfl | rfl | rfl
   ·exact (T.no 62 rfl)
   ·exact (T.no 63 rfl)
   ·exact (T.no 64 rfl)
   ·exact (T.no 65 rfl)
   ·exact (T.no 66 rfl)
  ·simp only [Cn.flds, Qg, Qm, or_false] at hf
   rcases hf with rfl | rfl | rfl | rfl
   ·exact (T.no 67 rfl)
   ·exact (T.no 68 rfl)
   ·exact (T.no 69 rfl)
   ·exact (T.no 70 rfl)
  ·simp only [Cn.flds, Qg, Qm, or_false] at hf
   rcases hf with rfl | rfl | rfl
   ·exact (T.no 71 rfl)
   ·exact (T.no 72 rfl)
   ·exact (T.no 73 rfl)
  ·simp only [Cn.flds, Qg, Qm, or_false] at hf
   rcases hf with rfl | rfl
   ·exact (T.no 74 rfl)
   ·exact (T.no 75 rfl)
  ·simp only [Cn.flds, Qg, Qm, or_false] at hf
   rcases hf with rfl | rfl
   ·exact (T.no 76 rfl)
   ·exact (T.no 77 rfl)
  ·simp only [Cn.flds, Qg, Qm, or_false] at hf
   rcases hf with rfl | rfl
   ·exact (T.no 78 rfl)
   ·exact (T.no 79 rfl)
instance : KCs K cs_ := ⟨csok T.t⟩
instance : KIn .Alphabet cs_ := ⟨by decide⟩
instance : KIn .Drop cs_ := ⟨by decide⟩
instance : KIn .LastDrop cs_ := ⟨by decide⟩
instance : KIn .Write cs_ := ⟨by decide⟩
instance : KIn .Once cs_ := ⟨by decide⟩
instance : KIn .Add cs_ := ⟨by decide⟩
instance : KIn .Rule cs_ := ⟨by decide⟩
instance : KIn .Lot cs_ := ⟨by decide⟩
theorem Zvc (T : Facts w K mg) {c0 : CS} {M0 : Mem} : SimR ⟨K, cs_, c0, M0⟩ (zIsi K) (uIsi Zgq (.cls .Alphabet)) :=
 Z58 (fun _ => rfl) (fun _ _ h => h) (.own _) (csok T) (fun k hk h => by simp only [cs_, Qg, Qm, or_false] at hk; rcases hk with rfl | rfl | rfl | rfl | rfl | rfl | rfl | rfl <;> first | exact (T.ic 0 rfl) | exact absurd h (by decide)) (fun k b hk h => by cases k with | t n => (cases h; done) | c n => (have hm := hk n rfl; simp only [cs_, Qg, Qm, or_false] at hm; rcases hm with rfl | rfl | rfl | rfl | rfl | rfl | rfl | rfl <;> first | (cases h; done) | (cases h; first | exact (T.kc 0 rfl))))
instance : KIs K cs_ Zgq (.cls .Alphabet) := ⟨Zvc T.t⟩
theorem Z8o (T : Facts w K mg) {c0 : CS} {M0 : Mem} : SimR ⟨K, cs_, c0, M0⟩ (zIsi K) (uIsi Zph (.ty "list")) :=
 Z58 (fun _ => rfl) (fun _ _ h => h) (.ty _) (csok T) (fun k hk h => by simp only [cs_, Qg, Qm, or_false] at hk; rcases hk with rfl | rfl | rfl | rfl | rfl | rfl | rfl | rfl <;> first | exact (T.ic 0 rfl) | exact absurd h (by decide)) (fun k b hk h => by cases k with | c n => cases h | t n => (by_cases e : n = "list"; (subst e; cases (show some true = some b from h); exact (T.kt 0 rfl)); (exact absurd h (by show ¬ ((if n = "list" then some true else none) = some b); rw [if_neg e]; simp))))
instance : KIs K cs_ Zph (.ty "list") := ⟨Z8o T.t⟩
theorem Zsj (T : Facts w K mg) : ∀ k ∈ cs_, subC .Drop k = true → Sup K (ga K k.str) (ga K "Drop") "__init__" (fAd K ("Stage", some "__init__")) := by
 intro k hk h
 simp only [cs_, Qg, Qm, or_false] at hk
 rcases hk with rfl | rfl | rfl | rfl | rfl | rfl | rfl | rfl
 ·exact absurd h (by decide)
 ·exact (T.su 0 rfl)
 ·exact (T.su 1 rfl)
 ·exact absurd h (by decide)
 ·exact absurd h (by decide)
 ·exact absurd h (by decide)
 ·exact absurd h (by decide)
 ·exact absurd h (by decide)
theorem Zkg (T : Facts w K mg) : ∀ k ∈ cs_, subC .LastDrop k = true → Sup K (ga K k.str) (ga K "LastDrop") "__init__" (fAd K ("Drop", some "__init__")) := by
 intro k hk h
 simp only [cs_, Qg, Qm, or_false] at hk
 rcases hk with rfl | rfl | rfl | rfl | rfl | rfl | rfl | rfl
 ·exact absurd h (by decide)
 ·exact absurd h (by decide)
 ·exact (T.su 2 rfl)
 ·exact absurd h (by decide)
 ·exact absurd h (by decide)
 ·exact absurd h (by decide)
 ·exact absurd h (by decide)
 ·exact absurd h (by decide)
theorem Zke (T : Facts w K mg) : ∀ k ∈ cs_, subC .LastDrop k = true → Sup K (ga K k.str) (ga K "LastDrop") "text" (fAd K ("Drop", some "text")) := by
 intro k hk h
 simp only [cs_, Qg, Qm, or_false] at hk
 rcases hk with rfl | rfl | rfl | rfl | rfl | rfl | rfl | rfl
 ·exact absurd h (by decide)
 ·exact absurd h (by decide)
 ·exact (T.su 3 rfl)
 ·exact absurd h (by decide)
 ·exact absurd h (by decide)
 ·exact absurd h (by decide)
 ·exact absurd h (by decide)
 ·exact absurd h (by decide)
theorem Zir (T : Facts w K mg) : ∀ k ∈ cs_, subC .LastDrop k = true → Sup K (ga K k.str) (ga K "LastDrop") "start" (fAd K ("Drop", some "start")) := by
 intro k hk h
 simp only [cs_, Qg, Qm, or_false] at hk
 rcases hk with rfl | rfl | rfl | rfl | rfl | rfl | rfl | rfl
 ·exact absurd h (by decide)
 ·exact absurd h (by decide)
 ·exact (T.su 4 rfl)
 ·exact absurd h (by decide)
 ·exact absurd h (by decide)
 ·exact absurd h (by decide)
 ·exact absurd h (by decide)
 ·exact absurd h (by decide)
theorem Zkf (T : Facts w K mg) : ∀ k ∈ cs_, subC .LastDrop k = true → Sup K (ga K k.str) (ga K "LastDrop") "step" (fAd K ("Drop", some "step")) := by
 intro k hk h
 simp only [cs_, Qg, Qm, or_false] at hk
 rcases hk with rfl | rfl | rfl | rfl | rfl | rfl | rfl | rfl
 ·exact absurd h (by decide)
 ·exact absurd h (by decide)
 ·exact (T.su 5 rfl)
 ·exact absurd h (by decide)
 ·exact absurd h (by decide)
 ·exact absurd h (by decide)
 ·exact absurd h (by decide)
 ·exact absurd h (by decide)
theorem Zlr (T : Facts w K mg) : ∀ k ∈ cs_, subC .LastDrop k = true → Sup K (ga K k.str) (ga K "LastDrop") "end" (fAd K ("Drop", some "end")) := by
 intro k hk h
 simp only [cs_, Qg, Qm, or_false] at hk
 rcases hk with rfl | rfl | rfl | rfl | rfl | rfl | rfl | rfl
 ·exact absurd h (by decide)
 ·exact absurd h (by decide)
 ·exact (T.su 6 rfl)
 ·exact absurd h (by decide)
 ·exact absurd h (by decide)
 ·exact absurd h (by decide)
 ·exact absurd h (by decide)
 ·exact absurd h (by decide)
theorem Zpj (T : Facts w K mg) : ∀ k ∈ cs_, subC .Write k = true → Sup K (ga K k.str) (ga K "Write") "__init__" (fAd K ("Stage", some "__init__")) := by
 intro k hk h
 simp only [cs_, Qg, Qm, or_false] at hk
 rcases hk with rfl | rfl | rfl | rfl | rfl | rfl | rfl | rfl
 ·exact absurd h (by decide)
 ·exact absurd h (by decide)
 ·exact absurd h (by decide)
 ·exact (T.su 7 rfl)
 ·exact absurd h (by decide)
 ·exact absurd h (by decide)
 ·exact absurd h (by decide)
 ·exact absurd h (by decide)
theorem Zsi (T : Facts w K mg) : ∀ k ∈ cs_, subC .Once k = true → Sup K (ga K k.str) (ga K "Once") "__init__" (fAd K ("Stage", some "__init__")) := by
 intro k hk h
 simp only [cs_, Qg, Qm, or_false] at hk
 rcases hk with rfl | rfl | rfl | rfl | rfl | rfl | rfl | rfl
 ·exact absurd h (by decide)
 ·exact absurd h (by decide)
 ·exact absurd h (by decide)
 ·exact absurd h (by decide)
 ·exact (T.su 8 rfl)
 ·exact absurd h (by decide)
 ·exact absurd h (by decide)
 ·exact absurd h (by decide)
theorem Zu2 (T : Facts w K mg) : ∀ k ∈ cs_, subC .Add k = true → Sup K (ga K k.str) (ga K "Add") "__init__" (fAd K ("Stage", some "__init__")) := by
 intro k hk h
 simp only [cs_, Qg, Qm, or_false] at hk
 rcases hk with rfl | rfl | rfl | rfl | rfl | rfl | rfl | rfl
 ·exact absurd h (by decide)
 ·exact absurd h (by decide)
 ·exact absurd h (by decide)
 ·exact absurd h (by decide)
 ·exact absurd h (by decide)
 ·exact (T.su 9 rfl)
 ·exact absurd h (by decide)
 ·exact absurd h (by decide)
theorem Zrx (T : Facts w K mg) : ∀ k ∈ cs_, ∀ sp, Zrd k = some sp → sp = Zbo ∧ StX.CallO K (ga K k.str) (fAd K ("Stage", some "__call__")) := by
 intro k hk sp h
 simp only [cs_, Qg, Qm, or_false] at hk
 rcases hk with rfl | rfl | rfl | rfl | rfl | rfl | rfl | rfl
 ·cases h
 ·cases h; exact ⟨rfl, (T.ca 0 rfl)⟩
 ·cases h; exact ⟨rfl, (T.ca 1 rfl)⟩
 ·cases h; exact ⟨rfl, (T.ca 2 rfl)⟩
 ·cases h; exact ⟨rfl, (T.ca 3 rfl)⟩
 ·cases h; exact ⟨rfl, (T.ca 4 rfl)⟩
 ·cases h
 ·cases h
instance : KCi K cs_ (Zrd) Zbo (fAd K ("Stage", some "__call__")) := ⟨Zrx T.t⟩
theorem Zuh (T : Facts w K mg) : ∀ k ∈ cs_, ∀ sp, gm1 .Rule Zbr k = some sp → sp = Zbr ∧ StX.CallO K (ga K k.str) (fAd K ("Rule", some "__call__")) := by
 intro k hk sp h
 obtain ⟨rfl, rfl⟩ := Z2f h
 exact ⟨rfl, (T.ca 5 rfl)⟩
instance : KCi K cs_ (gm1 .Rule Zbr) Zbr (fAd K ("Rule", some "__call__")) := ⟨Zuh T.t⟩
theorem Zgv : FnScope Zik ["self", "part"] (defScope Zgr) := ⟨rfl, rfl, rfl, by decide +kernel, rfl, by decide +kernel, by decide +kernel⟩
theorem Zhb (T : Facts w K mg) : Binds K (fdOf K ("BadAlphabet", some "__init__")) ["self", "part"] [] := (T.F 0 rfl).bindsN fun _ _ _ _ _ _ us hl => match us, hl with | [_, _], _ => rfl
theorem Zg1 (T : Facts w K mg) : FnOk PP w K mg base (L2.CX PP w) 1 (fAd K ("BadAlphabet", some "__init__")) (fdOf K ("BadAlphabet", some "__init__")) ["self", "part"] (Zgs K) := by
 refine (T.F 0 rfl).ok Zgv (fun vs H Q E h => Z1t vs H Q E h) (fun cdv A outer s H vs Q E hr h => ⟨Zhi PP w K, PSs.nox ?_, Zvj (T.xc 0 rfl).o (T.no 48 rfl) vs H Q E h⟩)
 exact pss_cons (ps_expr (Zlf rfl (T.g 6 rfl) (T.bi 0 rfl).s (T.bi 0 rfl).t (T.bi 0 rfl).r (T.bi 0 rfl).v (pa_cons (pv 0) (pa_cons (Zg0 (by decide +kernel)) pa_nil)))) (pss_one (ps_ost (pv 0) (pv 1)))
instance : KXc PP w K mg base .BadAlphabet (spX1 (ga K (Cn.str .BadAlphabet)) (Fd.str .part)) (fAd K ("BadAlphabet", some "__init__")) (fdOf K ("BadAlphabet", some "__init__")) ["self", "part"] := ⟨(T.t.xc 0 rfl), (T.t.i 44 rfl), (T.t.ti 44 rfl), Zg1 T.t, Zhb T.t⟩
theorem Zl7 : FnScope Zom ["self", "word"] (defScope Zlv) := ⟨rfl, rfl, rfl, by decide +kernel, rfl, by decide +kernel, by decide +kernel⟩
theorem Znj (T : Facts w K mg) : Binds K (fdOf K ("BadWord", some "__init__")) ["self", "word"] [] := (T.F 1 rfl).bindsN fun _ _ _ _ _ _ us hl => match us, hl with | [_, _], _ => rfl
theorem Zmj (T : Facts w K mg) : FnOk PP w K mg base (L2.CX PP w) 1 (fAd K ("BadWord", some "__init__")) (fdOf K ("BadWord", some "__init__")) ["self", "word"] (Zlx K) := by
 refine (T.F 1 rfl).ok Zl7 (fun vs H Q E h => Z1t vs H Q E h) (fun cdv A outer s H vs Q E hr h => ⟨Znq PP w K, PSs.nox ?_, Zvj (T.xc 2 rfl).o (T.no 49 rfl) vs H Q E h⟩)
 exact pss_cons (ps_expr (Zlf rfl (T.g 6 rfl) (T.bi 0 rfl).s (T.bi 0 rfl).t (T.bi 0 rfl).r (T.bi 0 rfl).v (pa_cons (pv 0) (pa_cons (Zg0 (by decide +kernel)) pa_nil)))) (pss_one (ps_ost (pv 0) (pv 1)))
instance : KXc PP w K mg base .BadWord (spX1 (ga K (Cn.str .BadWord)) (Fd.str .word)) (fAd K ("BadWord", some "__init__")) (fdOf K ("BadWord", some "__init__")) ["self", "word"] := ⟨(T.t.xc 2 rfl), (T.t.i 46 rfl), (T.t.ti 46 rfl), Zmj T.t, Znj T.t⟩
theorem Zko : FnScope Znn ["self", "what"] (defScope Zkk) := ⟨rfl, rfl, rfl, by decide +kernel, rfl, by decide +kernel, by decide +kernel⟩
theorem Zb4 (T : Facts w K mg) : Binds K (fdOf K ("BadStage", some "__init__")) ["self", "what"] [] := (T.F 2 rfl).bindsN fun _ _ _ _ _ _ us hl => match us, hl with | [_, _], _ => rfl
theorem Zb2 (T : Facts w K mg) : FnOk PP w K mg base (L2.CX PP w) 1 (fAd K ("BadStage", some "__init__")) (fdOf K ("BadStage", some "__init__")) ["self", "what"] (Zb1 K) := by
 refine (T.F 2 rfl).ok Zko (fun vs H Q E h => Z1t vs H Q E h) (fun cdv A outer s H vs Q E hr h => ⟨Zlp PP w K, PSs.nox ?_, Zvj (T.xc 1 rfl).o (T.no 50 rfl) vs H Q E h⟩)
 exact pss_cons (ps_expr (Zlf rfl (T.g 6 rfl) (T.bi 0 rfl).s (T.bi 0 rfl).t (T.bi 0 rfl).r (T.bi 0 rfl).v (pa_cons (pv 0) (pa_cons (Zg0 (by decide +kernel)) pa_nil)))) (pss_one (ps_ost (pv 0) (pv 1)))
instance : KXc PP w K mg base .BadStage (spX1 (ga K (Cn.str .BadStage)) (Fd.str .what)) (fAd K ("BadStage", some "__init__")) (fdOf K ("BadStage", some "__init__")) ["self", "what"] := ⟨(T.t.xc 1 rfl), (T.t.i 45 rfl), (T.t.ti 45 rfl), Zb2 T.t, Zb4 T.t⟩
instance : KFn PP w K mg base cs_ Zbn 1 (some "all_different") (fAd K ("all_different", none)) (fdOf K ("all_different", none)) ["text"] := ⟨fnA (N := Znm) (T.t.F 3 rfl) (by walk_at "sc") Zg3 Zi1 (r := fun _ => Zbi) (by delta Zbi; walk_at "kk"), kbN (T.t.F 3 rfl) (by walk_at "b1"), (T.t.F 3 rfl).kp, fun | _, rfl => (T.t.g 28 rfl)⟩
theorem Zla (T : Facts w K mg) : Binds K (fdOf K ("Alphabet", some "__init__")) ["self", "letters", "vowels"] [] := by
 obtain ⟨ds, h1, h2⟩ := (T.F 4 rfl).binds1 (ps := ["self", "letters", "vowels"]) 3 1 (L1 _ _) rfl (fun T' kV doc pm an cdv ct us its hu hi => match us, hu, its, hi with | [_, _, _], _, [_], _ => ⟨_, rfl, rfl⟩)
 cases h1
 exact h2
instance : KFn PP w K mg base cs_ Zbt 3 none (fAd K ("Alphabet", some "__init__")) (fdOf K ("Alphabet", some "__init__")) ["self", "letters", "vowels"] := ⟨fnK (N := Zno) (T.t.F 4 rfl) (by walk_at "sc") Zg7 Zi5 (r := Zbm) (by delta Zbm; walk_at "kk"), Zla T.t, (T.t.F 4 rfl).kp, fun _ h => nomatch h⟩
instance : KFn PP w K mg base cs_ Zan 1 none (fAd K ("Alphabet", some "is_word")) (fdOf K ("Alphabet", some "is_word")) ["self", "text"] := ⟨fnA (N := Zim) (T.t.F 5 rfl) (by walk_at "sc") Zfl Zgi (r := fun _ => Zaw) (by delta Zaw; walk_at "kk"), kbN (T.t.F 5 rfl) (by walk_at "b2"), (T.t.F 5 rfl).kp, fun _ h => nomatch h⟩
instance : KMe PP w K mg base cs_ .Alphabet Zan "is_word" 1 := ⟨⟨(T.t.cl 80 rfl), _, _, _, _, (T.t.mb 0 rfl), KFn.ok, KFn.bi (P := PP) (w := w) (mg := mg) (base := base) (cs := cs_) (g := Zan), .nil⟩⟩
instance : KHm Za4 "is_word" := ⟨Zjr⟩
instance : KMo PP w K mg base cs_ Za4 "is_word" 1 := ⟨by rintro C sp ⟨k, hk, rfl, q, hg, rfl⟩; cases k <;> first | (cases hg; done) | (cases hg; exact kme (by decide)) | exact absurd hk (by decide)⟩
theorem Zo4 (T : Facts w K mg) : ∀ C sp, okM K cs_ Za4 C sp → Znp PP w K mg base (L2.CX PP w) 1 "is_word" C sp [] := haveI : FT w K mg := ⟨T⟩; KMo.ok
instance : KFn PP w K mg base cs_ Zag 3 none (fAd K ("Alphabet", some "listed_members")) (fdOf K ("Alphabet", some "listed_members")) ["self", "name"] := ⟨fnA (N := Zer) (T.t.F 6 rfl) (by walk_at "sc") Zda Zdr (r := Zaj) (by delta Zaj; walk_at "kk"), kbN (T.t.F 6 rfl) (by walk_at "b2"), (T.t.F 6 rfl).kp, fun _ h => nomatch h⟩
instance : KMe PP w K mg base cs_ .Alphabet Zag "listed_members" 3 := ⟨⟨(T.t.cl 80 rfl), _, _, _, _, (T.t.mb 1 rfl), KFn.ok, KFn.bi (P := PP) (w := w) (mg := mg) (base := base) (cs := cs_) (g := Zag), .nil⟩⟩
instance : KHm Zbu "listed_members" := ⟨Zjq⟩
instance : KMo PP w K mg base cs_ Zbu "listed_members" 3 := ⟨by rintro C sp ⟨k, hk, rfl, q, hg, rfl⟩; cases k <;> first | (cases hg; done) | (cases hg; exact kme (by decide)) | exact absurd hk (by decide)⟩
instance : KFn PP w K mg base cs_ Zam 4 none (fAd K ("Alphabet", some "members")) (fdOf K ("Alphabet", some "members")) ["self", "name"] := ⟨fnA (N := Zil) (T.t.F 7 rfl) (by walk_at "sc") Zfk Zgh (r := Zav) (by delta Zav; walk_at "kk"), kbN (T.t.F 7 rfl) (by walk_at "b2"), (T.t.F 7 rfl).kp, fun _ h => nomatch h⟩
instance : KMe PP w K mg base cs_ .Alphabet Zam "members" 4 := ⟨⟨(T.t.cl 80 rfl), _, _, _, _, (T.t.mb 2 rfl), KFn.ok, KFn.bi (P := PP) (w := w) (mg := mg) (base := base) (cs := cs_) (g := Zam), .nil⟩⟩
theorem Zl8 : FnScope Zon ["self", "stage", "what"] (defScope Zlw) := ⟨rfl, rfl, rfl, by decide +kernel, rfl, by decide +kernel, by decide +kernel⟩
theorem Znk (T : Facts w K mg) : Binds K (fdOf K ("BadRule", some "__init__")) ["self", "stage", "what"] [] := (T.F 8 rfl).bindsN fun _ _ _ _ _ _ us hl => match us, hl with | [_, _, _], _ => rfl
theorem Zmk (T : Facts w K mg) : FnOk PP w K mg base (L2.CX PP w) 1 (fAd K ("BadRule", some "__init__")) (fdOf K ("BadRule", some "__init__")) ["self", "stage", "what"] (Zfp K) := by
 refine (T.F 8 rfl).ok Zl8 (fun vs H Q E h => Ycm vs H Q E h) (fun cdv A outer s H vs Q E hr h => ⟨Znr PP w K, PSs.nox ?_, Z8y (T.xc 4 rfl).o (T.no 52 rfl) (T.no 51 rfl) vs H Q E h⟩)
 exact pss_cons (ps_expr (Zlf rfl (T.g 6 rfl) (T.bi 0 rfl).s (T.bi 0 rfl).t (T.bi 0 rfl).r (T.bi 0 rfl).v (pa_cons (pv 0) (pa_cons (Zg0 (by decide +kernel)) pa_nil)))) (pss_cons (ps_ost (pv 0) (pv 1)) (pss_one (ps_ost (pv 0) (pv 2))))
instance : KFn PP w K mg base cs_ Zaq 1 none (fAd K ("Alphabet", some "__eq__")) (fdOf K ("Alphabet", some "__eq__")) ["self", "other"] := ⟨fnA (N := Zr6) (T.t.F 9 rfl) (by walk_at "sc") Zji Zmd (r := fun _ => Zcg) (by delta Zcg; walk_at "kk"), kbN (T.t.F 9 rfl) (by walk_at "b2"), (T.t.F 9 rfl).kp, fun _ h => nomatch h⟩
theorem Zn7 (T : Facts w K mg) : FnOk PP w K mg base (L2.CX PP w) 1 (fAd K ("Alphabet", some "__eq__")) (fdOf K ("Alphabet", some "__eq__")) ["self", "other"] (spD K cs_ Zaq) := haveI : FT w K mg := ⟨T⟩; KFn.ok
theorem Zoj (T : Facts w K mg) : Binds K (fdOf K ("Alphabet", some "__eq__")) ["self", "other"] [] := haveI : FT w K mg := ⟨T⟩; kbN (T.F 9 rfl) (by walk_at "b2")
instance : KFn PP w K mg base cs_ Zax 1 none (fAd K ("Stage", some "__init__")) (fdOf K ("Stage", some "__init__")) ["self", "alphabet"] := ⟨fnK (N := Zut) (T.t.F 10 rfl) (by walk_at "sc") Zk0 Znz (r := fun _ => Zcz) (by delta Zcz; walk_at "kk"), kbN (T.t.F 10 rfl) (by walk_at "b2"), (T.t.F 10 rfl).kp, fun _ h => nomatch h⟩
theorem Zdg (T : Facts w K mg) : FnOk PP w K mg base (L2.CX PP w) 1 (fAd K ("Stage", some "__init__")) (fdOf K ("Stage", some "__init__")) ["self", "alphabet"] (spD K cs_ Zax) := haveI : FT w K mg := ⟨T⟩; KFn.ok
theorem Zdj (T : Facts w K mg) : Binds K (fdOf K ("Stage", some "__init__")) ["self", "alphabet"] [] := haveI : FT w K mg := ⟨T⟩; kbN (T.F 10 rfl) (by walk_at "b2")
instance : KHm Za3 "members" := ⟨Zge⟩
instance : KMo PP w K mg base cs_ Za3 "members" 4 := ⟨by rintro C sp ⟨k, hk, rfl, q, hg, rfl⟩; cases k <;> first | (cases hg; done) | (cases hg; exact kme (by decide)) | exact absurd hk (by decide)⟩
theorem Zjc (T : Facts w K mg) : ∀ C sp, okM K cs_ Za3 C sp → Znp PP w K mg base (L2.CX PP w) 4 "members" C sp [] := haveI : FT w K mg := ⟨T⟩; KMo.ok
theorem Zp9 (T : Facts w K mg) (c0 : CS) (M0 : Mem) {E : XK} {Ed : DX} (px : PoX ⟨K, cs_, c0, M0⟩ c0 M0 Ed E) : SimS ⟨K, cs_, c0, M0⟩ (Ze9 PP w K E) (Zd4 Ed) :=
 Zao (Zdf (Zfq (Zsj T) Zkr (by walk_at "sa"))) (Zao (Zb7 (f := .name) (csok T) Zah Zah) (Zao (Zb7 (f := .chosen) (csok T) Zah (Zfc (fun _ => rfl) px Zge Zah (by walk_at "sa"))) (Zao (Zen (by walk_at "sa") (Zet (k := .BadStage) rfl px (by walk_at "sa")) Zde) (Zao (Zb7 (f := .after) (csok T) Zah Zah) (Zb7 (f := .each) (csok T) Zah Zah)))))
theorem Zn6 (T : Facts w K mg) (vs : List V) (H : Hp) (Q : VK) (E : XK) (h : Zel K vs H Q E) : Ze9 PP w K E { nx := fun _ H' => Q .non H', rt := Q } (L2.start Zhe vs) H :=
 Ze0 (N := Zhe) (t := fun E => Ze9 PP w K E) (d := fun E => Zd4 E) (fun S E Ed hK hc px => by obtain ⟨K, cs, c0, M0⟩ := S; cases hK; cases hc; exact Zp9 T c0 M0 px) Zqq vs H Q E h
theorem Zq7 (vs : List V) (H : Hp) (Q : VK) (E : XK) (h : Zel K vs H Q E) : vs.length = 5 := Zdp Zfz vs H Q E h
theorem Zj9 (T : Facts w K mg) : KBn K (fdOf K ("Drop", some "__init__")) ["self", "alphabet", "name", "after", "each"] 3 ["after", "each"] (fun us ws => us ++ ws) (fun vs zs => vs ++ zs) := (T.sb 0 rfl rfl).kbinds0 3 ["after", "each"] (fun kV doc pm an cdv ct cc us ws hu hk => match us, hu, ws, hk with | [_, _, _], _, [_, _], _ => rfl)
theorem Zs2 : Zb5 Zhe ["self", "alphabet", "name", "after", "each"] (defScope Zsn) := ⟨rfl, rfl, rfl, by decide +kernel, rfl, by decide +kernel, by decide +kernel, by decide +kernel⟩
theorem Zj7 (T : Facts w K mg) : FnOk PP w K mg base (L2.CX PP w) 5 (fAd K ("Drop", some "__init__")) (fdOf K ("Drop", some "__init__")) ["self", "alphabet", "name", "after", "each"] (Zel K) := by
 refine (T.sb 0 rfl rfl).ok Zs2 (fun vs H Q E h => Zq7 vs H Q E h) (fun cdv cc A outer s H vs Q E sd hr h => ⟨Ze9 PP w K E, id ?_, Zn6 T vs H Q E h⟩)
 exact Zd5 (Zh0 (Zi9 sd (T.n 42 rfl) (T.sg 0 rfl) (T.si 0 rfl) (FnOk.raw (Zdg T) (Zdj T) .nil) (hr.mono (by decide)) passL (pa_cons (pv 1) pa_nil))) (PSs.a (pss_cons (ps_fld (pv 0) (pv 2) rfl) (pss_cons (ps_fld (pv 0) (Zf9 (pv 1) (Zjc T) (hr.mono (by decide)) (passes_call (takes_of rfl rfl rfl rfl) (fun _ _ _ _ h => h)) (pa_cons (pv 2) pa_nil)) rfl) (pss_cons (ps_if (pt_not (pt_chain Z82 Z82 pe_int (pv 3) (pe_glob rfl (T.int 101 rfl).choose_spec ⟨_, rfl⟩))) (pss_one (ps_raise rfl (takes_of rfl rfl rfl rfl) (pmk_oex (T.xc 1 rfl).o (T.i 45 rfl) (T.ti 45 rfl) (Zb2 T) (hr.mono (by decide)) (Zb4 T) .nil passL rfl (T.g 4 rfl) (pa_cons (Zg0 (by decide +kernel)) pa_nil)))) pss_nil) (pss_cons (ps_fld (pv 0) (pv 3) rfl) (pss_one (ps_fld (pv 0) (pv 4) rfl)))))))
instance : KFk PP w K mg base cs_ Zbs 5 (fAd K ("Drop", some "__init__")) (fdOf K ("Drop", some "__init__")) ["self", "alphabet", "name", "after", "each"] 3 ["after", "each"] := ⟨Zj7 T.t, Zj9 T.t⟩
instance : KFn PP w K mg base cs_ Zba 1 none (fAd K ("Drop", some "text")) (fdOf K ("Drop", some "text")) ["self"] := ⟨fnA (N := Zwp) (T.t.F 11 rfl) (by walk_at "sc") Zmx Zqo (r := fun _ => Zd2) (by delta Zd2; walk_at "kk"), kbN (T.t.F 11 rfl) (by walk_at "b1"), (T.t.F 11 rfl).kp, fun _ h => nomatch h⟩
theorem Zth (T : Facts w K mg) : FnOk PP w K mg base (L2.CX PP w) 1 (fAd K ("Drop", some "text")) (fdOf K ("Drop", some "text")) ["self"] (spD K cs_ Zba) := haveI : FT w K mg := ⟨T⟩; KFn.ok
theorem Zul (T : Facts w K mg) : Binds K (fdOf K ("Drop", some "text")) ["self"] [] := haveI : FT w K mg := ⟨T⟩; kbN (T.F 11 rfl) (by walk_at "b1")
instance : KMe PP w K mg base cs_ .Drop Zba "text" 1 := ⟨⟨(T.t.cl 81 rfl), _, _, _, _, (T.t.mb 18 rfl), KFn.ok, KFn.bi (P := PP) (w := w) (mg := mg) (base := base) (cs := cs_) (g := Zba), .nil⟩⟩
instance : KFn PP w K mg base cs_ Zay 1 none (fAd K ("Drop", some "start")) (fdOf K ("Drop", some "start")) ["self"] := ⟨fnA (N := Zux) (T.t.F 12 rfl) (by walk_at "sc") Zk4 Zn3 (r := fun _ => Zfv) (by delta Zfv; walk_at "kk"), kbN (T.t.F 12 rfl) (by walk_at "b1"), (T.t.F 12 rfl).kp, fun _ h => nomatch h⟩
theorem Zqx (T : Facts w K mg) : FnOk PP w K mg base (L2.CX PP w) 1 (fAd K ("Drop", some "start")) (fdOf K ("Drop", some "start")) ["self"] (spD K cs_ Zay) := haveI : FT w K mg := ⟨T⟩; KFn.ok
theorem Zrz (T : Facts w K mg) : Binds K (fdOf K ("Drop", some "start")) ["self"] [] := haveI : FT w K mg := ⟨T⟩; kbN (T.F 12 rfl) (by walk_at "b1")
instance : KMe PP w K mg base cs_ .Drop Zay "start" 1 := ⟨⟨(T.t.cl 81 rfl), _, _, _, _, (T.t.mb 13 rfl), KFn.ok, KFn.bi (P := PP) (w := w) (mg := mg) (base := base) (cs := cs_) (g := Zay), .nil⟩⟩
instance : KFn PP w K mg base cs_ Zbb 1 none (fAd K ("Drop", some "step")) (fdOf K ("Drop", some "step")) ["self", "state", "sign"] := ⟨fnA (N := Zwq) (T.t.F 13 rfl) (by walk_at "sc") Zmy Zqp (r := fun _ => Zd3) (by delta Zd3; walk_at "kk"), kbN (T.t.F 13 rfl) (by walk_at "b3"), (T.t.F 13 rfl).kp, fun _ h => nomatch h⟩
theorem Zti (T : Facts w K mg) : FnOk PP w K mg base (L2.CX PP w) 1 (fAd K ("Drop", some "step")) (fdOf K ("Drop", some "step")) ["self", "state", "sign"] (spD K cs_ Zbb) := haveI : FT w K mg := ⟨T⟩; KFn.ok
theorem Zum (T : Facts w K mg) : Binds K (fdOf K ("Drop", some "step")) ["self", "state", "sign"] [] := haveI : FT w K mg := ⟨T⟩; kbN (T.F 13 rfl) (by walk_at "b3")
instance : KMe PP w K mg base cs_ .Drop Zbb "step" 1 := ⟨⟨(T.t.cl 81 rfl), _, _, _, _, (T.t.mb 8 rfl), KFn.ok, KFn.bi (P := PP) (w := w) (mg := mg) (base := base) (cs := cs_) (g := Zbb), .nil⟩⟩
instance : KFn PP w K mg base cs_ Zbw 1 none (fAd K ("Drop", some "end")) (fdOf K ("Drop", some "end")) ["self", "state"] := ⟨fnA (N := Zy6) (T.t.F 14 rfl) (by walk_at "sc") Zob Zs8 (r := fun _ => Zi7) (by delta Zi7; walk_at "kk"), kbN (T.t.F 14 rfl) (by walk_at "b2"), (T.t.F 14 rfl).kp, fun _ h => nomatch h⟩
theorem Zvm (T : Facts w K mg) : FnOk PP w K mg base (L2.CX PP w) 1 (fAd K ("Drop", some "end")) (fdOf K ("Drop", some "end")) ["self", "state"] (spD K cs_ Zbw) := haveI : FT w K mg := ⟨T⟩; KFn.ok
theorem Zwb (T : Facts w K mg) : Binds K (fdOf K ("Drop", some "end")) ["self", "state"] [] := haveI : FT w K mg := ⟨T⟩; kbN (T.F 14 rfl) (by walk_at "b2")
instance : KMe PP w K mg base cs_ .Drop Zbw "end" 1 := ⟨⟨(T.t.cl 81 rfl), _, _, _, _, (T.t.mb 3 rfl), KFn.ok, KFn.bi (P := PP) (w := w) (mg := mg) (base := base) (cs := cs_) (g := Zbw), .nil⟩⟩
theorem Ziy (T : Facts w K mg) (c0 : CS) (M0 : Mem) {E : XK} {Ed : DX} (px : PoX ⟨K, cs_, c0, M0⟩ c0 M0 Ed E) : SimS ⟨K, cs_, c0, M0⟩ (Zcd PP w K E) (Zbl Ed) :=
 Zdf (Z36 (Zkg T) px (by walk_at "sa") (by walk_at "sa"))
theorem Zhz (T : Facts w K mg) (vs : List V) (H : Hp) (Q : VK) (E : XK) (h : Zc9 K vs H Q E) : Zcd PP w K E { nx := fun _ H' => Q .non H', rt := Q } (L2.start Zeh vs) H :=
 Ze0 (N := Zeh) (t := fun E => Zcd PP w K E) (d := fun E => Zbl E) (fun S E Ed hK hc px => by obtain ⟨K, cs, c0, M0⟩ := S; cases hK; cases hc; exact Ziy T c0 M0 px) Zi4 vs H Q E h
theorem Zjl (vs : List V) (H : Hp) (Q : VK) (E : XK) (h : Zc9 K vs H Q E) : vs.length = 5 := Zdp Zg6 vs H Q E h
theorem Zk6 (T : Facts w K mg) : KBn K (fdOf K ("LastDrop", some "__init__")) ["self", "alphabet", "name", "after", "each"] 3 ["after", "each"] (fun us ws => us ++ ws) (fun vs zs => vs ++ zs) := (T.sb 1 rfl rfl).kbinds0 3 ["after", "each"] (fun kV doc pm an cdv ct cc us ws hu hk => match us, hu, ws, hk with | [_, _, _], _, [_, _], _ => rfl)
theorem Zkn : Zb5 Zeh ["self", "alphabet", "name", "after", "each"] (defScope Zkj) := ⟨rfl, rfl, rfl, by decide +kernel, rfl, by decide +kernel, by decide +kernel, by decide +kernel⟩
theorem Zku (T : Facts w K mg) : FnOk PP w K mg base (L2.CX PP w) 6 (fAd K ("LastDrop", some "__init__")) (fdOf K ("LastDrop", some "__init__")) ["self", "alphabet", "name", "after", "each"] (Zc9 K) := by
 refine (T.sb 1 rfl rfl).ok Zkn (fun vs H Q E h => Zjl vs H Q E h) (fun cdv cc A outer s H vs Q E sd hr h => ⟨Zcd PP w K E, id ?_, Zhz T vs H Q E h⟩)
 exact Zle (Zh0 (Z4g (ks := ["after", "each"]) sd (T.n 42 rfl) (T.sg 1 rfl) (T.si 1 rfl) ⟨_, _, Zj7 T, Zj9 T⟩ (hr.mono (by decide)) (passes_call (takes_of rfl rfl rfl rfl) (fun _ _ _ _ h => h)) (pa_cons (pv 1) (pa_cons (pv 2) pa_nil)) (pk_cons (pv 3) (pk_cons (pv 4) pk_nil))))
instance : KFk PP w K mg base cs_ Za6 6 (fAd K ("LastDrop", some "__init__")) (fdOf K ("LastDrop", some "__init__")) ["self", "alphabet", "name", "after", "each"] 3 ["after", "each"] := ⟨Zku T.t, Zk6 T.t⟩
theorem Ziw (T : Facts w K mg) (c0 : CS) (M0 : Mem) : SimS ⟨K, cs_, c0, M0⟩ (Zcb PP w K) (Zbj) :=
 Zgu (Zhn Zow (Zfq (Zke T) Zkr Zl1) (Zp4 fun _ => rfl))
theorem Zhx (T : Facts w K mg) (vs : List V) (H : Hp) (Q : VK) (E : XK) (h : Zc7 K vs H Q E) : Zcb PP w K { nx := fun _ H' => Q .non H', rt := Q } (L2.start Zef vs) H :=
 Zld (N := Zef) (t := fun _ => Zcb PP w K) (d := fun _ => Zbj) (fun S E Ed hK hc px => by obtain ⟨K, cs, c0, M0⟩ := S; cases hK; cases hc; exact Ziw T c0 M0) Zi2 vs H Q E h
theorem Zjj (vs : List V) (H : Hp) (Q : VK) (E : XK) (h : Zc7 K vs H Q E) : vs.length = 1 := Zdp Zg4 vs H Q E h
theorem Zkm : Zb5 Zef ["self"] (defScope Zkh) := ⟨rfl, rfl, rfl, by decide +kernel, rfl, by decide +kernel, by decide +kernel, by decide +kernel⟩
theorem Zk8 (T : Facts w K mg) : Binds K (fdOf K ("LastDrop", some "text")) ["self"] [] := (T.sb 2 rfl rfl).bindsN fun _ _ _ _ _ _ _ us hl => match us, hl with | [_], _ => rfl
theorem Zks (T : Facts w K mg) : FnOk PP w K mg base (L2.CX PP w) 2 (fAd K ("LastDrop", some "text")) (fdOf K ("LastDrop", some "text")) ["self"] (Zc7 K) := by
 refine (T.sb 2 rfl rfl).ok Zkm (fun vs H Q E h => Zjj vs H Q E h) (fun cdv cc A outer s H vs Q E sd hr h => ⟨Zcb PP w K, id ?_, Zhx T vs H Q E h⟩)
 exact Zle (Zvk (Z6u Zte (Zxd sd (T.n 42 rfl) (T.sg 2 rfl) (T.si 2 rfl) (FnOk.raw (Zth T) (Zul T) .nil) (hr.mono (by decide)) passL ) (PE.a (Zg0 (by decide +kernel)))))
instance : KFn PP w K mg base cs_ Zas 2 none (fAd K ("LastDrop", some "text")) (fdOf K ("LastDrop", some "text")) ["self"] := ⟨Zks T.t, Zk8 T.t, (T.t.sb 2 rfl rfl).kp, fun _ h => nomatch h⟩
instance : KMe PP w K mg base cs_ .LastDrop Zas "text" 2 := ⟨⟨(T.t.cl 82 rfl), _, _, _, _, (T.t.mb 19 rfl), KFn.ok, KFn.bi (P := PP) (w := w) (mg := mg) (base := base) (cs := cs_) (g := Zas), .nil⟩⟩
theorem Zhq (T : Facts w K mg) (c0 : CS) (M0 : Mem) : SimS ⟨K, cs_, c0, M0⟩ (Zb0 PP w K) (Zbd) :=
 Zgu (Zpr (Zhp (Zfq (Zir T) Zkr Zl1) (by walk_at "sa")))
theorem Zgz (T : Facts w K mg) (vs : List V) (H : Hp) (Q : VK) (E : XK) (h : Zcj K vs H Q E) : Zb0 PP w K { nx := fun _ H' => Q .non H', rt := Q } (L2.start Zdb vs) H :=
 Zld (N := Zdb) (t := fun _ => Zb0 PP w K) (d := fun _ => Zbd) (fun S E Ed hK hc px => by obtain ⟨K, cs, c0, M0⟩ := S; cases hK; cases hc; exact Zhq T c0 M0) Zhs vs H Q E h
theorem Zh7 (vs : List V) (H : Hp) (Q : VK) (E : XK) (h : Zcj K vs H Q E) : vs.length = 1 := Zdp Zgj vs H Q E h
theorem Ziz : Zb5 Zdb ["self"] (defScope Zis) := ⟨rfl, rfl, rfl, by decide +kernel, rfl, by decide +kernel, by decide +kernel, by decide +kernel⟩
theorem Zjx (T : Facts w K mg) : Binds K (fdOf K ("LastDrop", some "start")) ["self"] [] := (T.sb 3 rfl rfl).bindsN fun _ _ _ _ _ _ _ us hl => match us, hl with | [_], _ => rfl
theorem Zja (T : Facts w K mg) : FnOk PP w K mg base (L2.CX PP w) 2 (fAd K ("LastDrop", some "start")) (fdOf K ("LastDrop", some "start")) ["self"] (Zcj K) := by
 refine (T.sb 3 rfl rfl).ok Ziz (fun vs H Q E h => Zh7 vs H Q E h) (fun cdv cc A outer s H vs Q E sd hr h => ⟨Zb0 PP w K, id ?_, Zgz T vs H Q E h⟩)
 exact Zle (Zvk (Z80 (Zxd sd (T.n 42 rfl) (T.sg 3 rfl) (T.si 3 rfl) (FnOk.raw (Zqx T) (Zrz T) .nil) (hr.mono (by decide)) passL ) (pa_cons (Zg0 (by decide +kernel)) pa_nil)))
instance : KFn PP w K mg base cs_ Zap 2 none (fAd K ("LastDrop", some "start")) (fdOf K ("LastDrop", some "start")) ["self"] := ⟨Zja T.t, Zjx T.t, (T.t.sb 3 rfl rfl).kp, fun _ h => nomatch h⟩
instance : KMe PP w K mg base cs_ .LastDrop Zap "start" 2 := ⟨⟨(T.t.cl 82 rfl), _, _, _, _, (T.t.mb 14 rfl), KFn.ok, KFn.bi (P := PP) (w := w) (mg := mg) (base := base) (cs := cs_) (g := Zap), .nil⟩⟩
theorem Zix (T : Facts w K mg) (c0 : CS) (M0 : Mem) : SimS ⟨K, cs_, c0, M0⟩ (Zcc PP w K) (Zbk) :=
 Zao (by walk_at "sa") (Zao (Zl6 (Zfq (Zkf T) Zkr (by walk_at "sa")) (by walk_at "sa")) (Zao (Zen (Zp6 (Zlz (Zp1 (f := .each) (csok T) Zah)) (Zf8 (Zhn Z35 Zah (Zp2 (k := .Alphabet) (T.cr 0 rfl) (T.cv 0 rfl) fun _ => rfl)))) (by walk_at "sa") Zde) (by walk_at "sa")))
theorem Zhy (T : Facts w K mg) (vs : List V) (H : Hp) (Q : VK) (E : XK) (h : Zc8 K vs H Q E) : Zcc PP w K { nx := fun _ H' => Q .non H', rt := Q } (L2.start Zeg vs) H :=
 Zld (N := Zeg) (t := fun _ => Zcc PP w K) (d := fun _ => Zbk) (fun S E Ed hK hc px => by obtain ⟨K, cs, c0, M0⟩ := S; cases hK; cases hc; exact Zix T c0 M0) Zi3 vs H Q E h
theorem Zjk (vs : List V) (H : Hp) (Q : VK) (E : XK) (h : Zc8 K vs H Q E) : vs.length = 3 := Zdp Zg5 vs H Q E h
theorem Zbc : Zb5 Zeg ["self", "state", "sign"] (defScope Zki) := ⟨rfl, rfl, rfl, by decide +kernel, rfl, by decide +kernel, by decide +kernel, by decide +kernel⟩
theorem Zk9 (T : Facts w K mg) : Binds K (fdOf K ("LastDrop", some "step")) ["self", "state", "sign"] [] := (T.sb 4 rfl rfl).bindsN fun _ _ _ _ _ _ _ us hl => match us, hl with | [_, _, _], _ => rfl
theorem Zkt (T : Facts w K mg) : FnOk PP w K mg base (L2.CX PP w) 2 (fAd K ("LastDrop", some "step")) (fdOf K ("LastDrop", some "step")) ["self", "state", "sign"] (Zc8 K) := by
 refine (T.sb 4 rfl rfl).ok Zbc (fun vs H Q E h => Zjk vs H Q E h) (fun cdv cc A outer s H vs Q E sd hr h => ⟨Zcc PP w K, id ?_, Zhy T vs H Q E h⟩)
 exact Zd5 (PS.a (ps_asg (pv 1) (pg_tup rfl (pgs_cons (pg_name (i := 3) Zbc.nd rfl (by first | exact Or.inl rfl | exact Or.inr rfl)) (pgs_cons (pg_name (i := 4) Zbc.nd rfl (by first | exact Or.inl rfl | exact Or.inr rfl)) pgs_nil))))) (Zd5 (Z8z (Zi9 sd (T.n 42 rfl) (T.sg 4 rfl) (T.si 4 rfl) (FnOk.raw (Zti T) (Zum T) .nil) (hr.mono (by decide)) passL (pa_cons (pv 3) (pa_cons (pv 2) pa_nil))) (pg_tup rfl (pgs_cons (pg_name (i := 3) Zbc.nd rfl (by first | exact Or.inl rfl | exact Or.inr rfl)) (pgs_cons (pg_name (i := 5) Zbc.nd rfl (by first | exact Or.inl rfl | exact Or.inr rfl)) pgs_nil)))) (PSs.a (pss_cons (ps_if (PW.pt (pw_and (pt_truth (pe_fld (pv 0) rfl) (fun _ => rfl)) (pw_and1 (pt_cmpR (Z83 (hu64 hr)) (pv 2) (pe_cval (pe_glob rfl (T.g 1 rfl) rfl)) (nomark _))))) (pss_one (ps_ret (pe_tup (pa_cons (pe_tup (pa_cons (pv 3) (pa_cons (Zg0 (by decide +kernel)) pa_nil))) (pa_cons (pe_op Zte (pv 4) (pv 5)) pa_nil))))) pss_nil) (pss_cons (ps_if (pt_cmpR (Z83 (hu64 hr)) (pv 5) (Zg0 (by decide +kernel)) (nomark _)) (pss_one (ps_ret (pe_tup (pa_cons (pe_tup (pa_cons (pv 3) (pa_cons (pv 2) pa_nil))) (pa_cons (Zg0 (by decide +kernel)) pa_nil))))) pss_nil) (pss_one (ps_ret (pe_tup (pa_cons (pe_tup (pa_cons (pv 3) (pa_cons (Zg0 (by decide +kernel)) pa_nil))) (pa_cons (pv 5) pa_nil)))))))))
instance : KFn PP w K mg base cs_ Zat 2 none (fAd K ("LastDrop", some "step")) (fdOf K ("LastDrop", some "step")) ["self", "state", "sign"] := ⟨Zkt T.t, Zk9 T.t, (T.t.sb 4 rfl rfl).kp, fun _ h => nomatch h⟩
instance : KMe PP w K mg base cs_ .LastDrop Zat "step" 2 := ⟨⟨(T.t.cl 82 rfl), _, _, _, _, (T.t.mb 9 rfl), KFn.ok, KFn.bi (P := PP) (w := w) (mg := mg) (base := base) (cs := cs_) (g := Zat), .nil⟩⟩
theorem Zkl (T : Facts w K mg) (c0 : CS) (M0 : Mem) : SimS ⟨K, cs_, c0, M0⟩ (Zcq PP w K) (Zbx) :=
 Zao (by walk_at "sa") (Zgu (Zhn Zow Zah (Zfq (Zlr T) Zkr (by walk_at "sa"))))
theorem Zi8 (T : Facts w K mg) (vs : List V) (H : Hp) (Q : VK) (E : XK) (h : Zdo K vs H Q E) : Zcq PP w K { nx := fun _ H' => Q .non H', rt := Q } (L2.start Zeq vs) H :=
 Zld (N := Zeq) (t := fun _ => Zcq PP w K) (d := fun _ => Zbx) (fun S E Ed hK hc px => by obtain ⟨K, cs, c0, M0⟩ := S; cases hK; cases hc; exact Zkl T c0 M0) Zkq vs H Q E h
theorem Zk5 (vs : List V) (H : Hp) (Q : VK) (E : XK) (h : Zdo K vs H Q E) : vs.length = 2 := Zdp Zh4 vs H Q E h
theorem Zdq : Zb5 Zeq ["self", "state"] (defScope Zlu) := ⟨rfl, rfl, rfl, by decide +kernel, rfl, by decide +kernel, by decide +kernel, by decide +kernel⟩
theorem Zni (T : Facts w K mg) : Binds K (fdOf K ("LastDrop", some "end")) ["self", "state"] [] := (T.sb 5 rfl rfl).bindsN fun _ _ _ _ _ _ _ us hl => match us, hl with | [_, _], _ => rfl
theorem Zmi (T : Facts w K mg) : FnOk PP w K mg base (L2.CX PP w) 2 (fAd K ("LastDrop", some "end")) (fdOf K ("LastDrop", some "end")) ["self", "state"] (Zdo K) := by
 refine (T.sb 5 rfl rfl).ok Zdq (fun vs H Q E h => Zk5 vs H Q E h) (fun cdv cc A outer s H vs Q E sd hr h => ⟨Zcq PP w K, id ?_, Zi8 T vs H Q E h⟩)
 exact Zd5 (PS.a (ps_asg (pv 1) (pg_tup rfl (pgs_cons (pg_name (i := 2) Zdq.nd rfl (by first | exact Or.inl rfl | exact Or.inr rfl)) (pgs_cons (pg_name (i := 3) Zdq.nd rfl (by first | exact Or.inl rfl | exact Or.inr rfl)) pgs_nil))))) (Zle (Zvk (Z6u Zte (PE.a (pv 3)) (Zi9 sd (T.n 42 rfl) (T.sg 5 rfl) (T.si 5 rfl) (FnOk.raw (Zvm T) (Zwb T) .nil) (hr.mono (by decide)) passL (pa_cons (pv 2) pa_nil)))))
instance : KFn PP w K mg base cs_ Za0 2 none (fAd K ("LastDrop", some "end")) (fdOf K ("LastDrop", some "end")) ["self", "state"] := ⟨Zmi T.t, Zni T.t, (T.t.sb 5 rfl rfl).kp, fun _ h => nomatch h⟩
instance : KMe PP w K mg base cs_ .LastDrop Za0 "end" 2 := ⟨⟨(T.t.cl 82 rfl), _, _, _, _, (T.t.mb 4 rfl), KFn.ok, KFn.bi (P := PP) (w := w) (mg := mg) (base := base) (cs := cs_) (g := Za0), .nil⟩⟩
theorem Znt (T : Facts w K mg) (c0 : CS) (M0 : Mem) {E : XK} {Ed : DX} (px : PoX ⟨K, cs_, c0, M0⟩ c0 M0 Ed E) : SimS ⟨K, cs_, c0, M0⟩ (Zek PP w K E) (Zcy Ed) :=
 Zao (Zdf (Zfq (Zpj T) Zkr (by walk_at "sa"))) (Zao (Zen (Zst (by walk_at "sa") (Zl0 (Zlz (Zfc (fun _ => rfl) Zkr Zjr Zah (by walk_at "sa"))))) (Zet (k := .BadStage) rfl px (by walk_at "sa")) Zde) (Zao (Zb7 (f := .sign) (csok T) Zah Zah) (Zao (Zb7 (f := .name) (csok T) Zah Zah) (Zb7 (f := .chosen) (csok T) Zah (Zfc (fun _ => rfl) px Zge Zah (by walk_at "sa"))))))
theorem Zmg (T : Facts w K mg) (vs : List V) (H : Hp) (Q : VK) (E : XK) (h : Zfb K vs H Q E) : Zek PP w K E { nx := fun _ H' => Q .non H', rt := Q } (L2.start Zf6 vs) H :=
 Ze0 (N := Zf6) (t := fun E => Zek PP w K E) (d := fun E => Zcy E) (fun S E Ed hK hc px => by obtain ⟨K, cs, c0, M0⟩ := S; cases hK; cases hc; exact Znt T c0 M0 px) Zny vs H Q E h
theorem Zof (vs : List V) (H : Hp) (Q : VK) (E : XK) (h : Zfb K vs H Q E) : vs.length = 4 := Zdp Zkz vs H Q E h
theorem Zqa : Zb5 Zf6 ["self", "alphabet", "sign", "name"] (defScope Zpk) := ⟨rfl, rfl, rfl, by decide +kernel, rfl, by decide +kernel, by decide +kernel, by decide +kernel⟩
theorem Zry (T : Facts w K mg) : Binds K (fdOf K ("Write", some "__init__")) ["self", "alphabet", "sign", "name"] [] := (T.sb 6 rfl rfl).bindsN fun _ _ _ _ _ _ _ us hl => match us, hl with | [_, _, _, _], _ => rfl
theorem Zqw (T : Facts w K mg) : FnOk PP w K mg base (L2.CX PP w) 5 (fAd K ("Write", some "__init__")) (fdOf K ("Write", some "__init__")) ["self", "alphabet", "sign", "name"] (Zfb K) := by
 refine (T.sb 6 rfl rfl).ok Zqa (fun vs H Q E h => Zof vs H Q E h) (fun cdv cc A outer s H vs Q E sd hr h => ⟨Zek PP w K E, id ?_, Zmg T vs H Q E h⟩)
 exact Zd5 (Zh0 (Zi9 sd (T.n 42 rfl) (T.sg 0 rfl) (T.si 0 rfl) (FnOk.raw (Zdg T) (Zdj T) .nil) (hr.mono (by decide)) passL (pa_cons (pv 1) pa_nil))) (PSs.a (pss_cons (ps_if (PW.pt (pw_or (pt_cmpR (Z81 (hu64 hr)) (pe_callB Zrv rfl (T.n 36 rfl) (by decide +kernel) (pa_cons (pv 2) pa_nil)) pe_int (nomark _)) (pw_or1 (pt_not (pt_truth (Zf9 (pv 1) (Zo4 T) (hr.mono (by decide)) passL (pa_cons (pv 2) pa_nil)) (fun _ => rfl)))))) (pss_one (ps_raise rfl (takes_of rfl rfl rfl rfl) (pmk_oex (T.xc 1 rfl).o (T.i 45 rfl) (T.ti 45 rfl) (Zb2 T) (hr.mono (by decide)) (Zb4 T) .nil passL rfl (T.g 4 rfl) (pa_cons (Zg0 (by decide +kernel)) pa_nil)))) pss_nil) (pss_cons (ps_fld (pv 0) (pv 2) rfl) (pss_cons (ps_fld (pv 0) (pv 3) rfl) (pss_one (ps_fld (pv 0) (Zf9 (pv 1) (Zjc T) (hr.mono (by decide)) (passes_call (takes_of rfl rfl rfl rfl) (fun _ _ _ _ h => h)) (pa_cons (pv 3) pa_nil)) rfl))))))
instance : KFn PP w K mg base cs_ Zc3 5 none (fAd K ("Write", some "__init__")) (fdOf K ("Write", some "__init__")) ["self", "alphabet", "sign", "name"] := ⟨Zqw T.t, Zry T.t, (T.t.sb 6 rfl rfl).kp, fun _ h => nomatch h⟩
instance : KFn PP w K mg base cs_ Zb8 1 none (fAd K ("Write", some "text")) (fdOf K ("Write", some "text")) ["self"] := ⟨fnA (N := Zur) (T.t.F 15 rfl) (by walk_at "sc") Zkx Znw (r := fun _ => Zcw) (by delta Zcw; walk_at "kk"), kbN (T.t.F 15 rfl) (by walk_at "b1"), (T.t.F 15 rfl).kp, fun _ h => nomatch h⟩
instance : KMe PP w K mg base cs_ .Write Zb8 "text" 1 := ⟨⟨(T.t.cl 83 rfl), _, _, _, _, (T.t.mb 20 rfl), KFn.ok, KFn.bi (P := PP) (w := w) (mg := mg) (base := base) (cs := cs_) (g := Zb8), .nil⟩⟩
instance : KFn PP w K mg base cs_ Zbv 1 none (fAd K ("Write", some "start")) (fdOf K ("Write", some "start")) ["self"] := ⟨fnA (N := Zr5) (T.t.F 16 rfl) (by walk_at "sc") Zjh Zmc (r := fun _ => Zfd) (by delta Zfd; walk_at "kk"), kbN (T.t.F 16 rfl) (by walk_at "b1"), (T.t.F 16 rfl).kp, fun _ h => nomatch h⟩
instance : KMe PP w K mg base cs_ .Write Zbv "start" 1 := ⟨⟨(T.t.cl 83 rfl), _, _, _, _, (T.t.mb 15 rfl), KFn.ok, KFn.bi (P := PP) (w := w) (mg := mg) (base := base) (cs := cs_) (g := Zbv), .nil⟩⟩
instance : KFn PP w K mg base cs_ Zb9 1 none (fAd K ("Write", some "step")) (fdOf K ("Write", some "step")) ["self", "state", "sign"] := ⟨fnA (N := Zus) (T.t.F 17 rfl) (by walk_at "sc") Zky Znx (r := fun _ => Zcx) (by delta Zcx; walk_at "kk"), kbN (T.t.F 17 rfl) (by walk_at "b3"), (T.t.F 17 rfl).kp, fun _ h => nomatch h⟩
instance : KMe PP w K mg base cs_ .Write Zb9 "step" 1 := ⟨⟨(T.t.cl 83 rfl), _, _, _, _, (T.t.mb 10 rfl), KFn.ok, KFn.bi (P := PP) (w := w) (mg := mg) (base := base) (cs := cs_) (g := Zb9), .nil⟩⟩
instance : KFn PP w K mg base cs_ Zcl 1 none (fAd K ("Write", some "end")) (fdOf K ("Write", some "end")) ["self", "state"] := ⟨fnA (N := Zwj) (T.t.F 18 rfl) (by walk_at "sc") Zmq Zqg (r := fun _ => Zgx) (by delta Zgx; walk_at "kk"), kbN (T.t.F 18 rfl) (by walk_at "b2"), (T.t.F 18 rfl).kp, fun _ h => nomatch h⟩
instance : KMe PP w K mg base cs_ .Write Zcl "end" 1 := ⟨⟨(T.t.cl 83 rfl), _, _, _, _, (T.t.mb 5 rfl), KFn.ok, KFn.bi (P := PP) (w := w) (mg := mg) (base := base) (cs := cs_) (g := Zcl), .nil⟩⟩
theorem Zp8 (T : Facts w K mg) (c0 : CS) (M0 : Mem) {E : XK} {Ed : DX} (px : PoX ⟨K, cs_, c0, M0⟩ c0 M0 Ed E) : SimS ⟨K, cs_, c0, M0⟩ (Ze8 PP w K E) (Zd0 Ed) :=
 Zao (Zdf (Zfq (Zsi T) Zkr (by walk_at "sa"))) (Zao (Zb7 (f := .name) (csok T) Zah Zah) (Zb7 (f := .chosen) (csok T) Zah (Zfc (fun _ => rfl) px Zge Zah (by walk_at "sa"))))
theorem Zn5 (T : Facts w K mg) (vs : List V) (H : Hp) (Q : VK) (E : XK) (h : Zfo K vs H Q E) : Ze8 PP w K E { nx := fun _ H' => Q .non H', rt := Q } (L2.start Zhd vs) H :=
 Ze0 (N := Zhd) (t := fun E => Ze8 PP w K E) (d := fun E => Zd0 E) (fun S E Ed hK hc px => by obtain ⟨K, cs, c0, M0⟩ := S; cases hK; cases hc; exact Zp8 T c0 M0 px) Zqm vs H Q E h
theorem Zq6 (vs : List V) (H : Hp) (Q : VK) (E : XK) (h : Zfo K vs H Q E) : vs.length = 3 := Zdp Zmv vs H Q E h
theorem Zs1 : Zb5 Zhd ["self", "alphabet", "name"] (defScope Zsm) := ⟨rfl, rfl, rfl, by decide +kernel, rfl, by decide +kernel, by decide +kernel, by decide +kernel⟩
theorem Zuk (T : Facts w K mg) : Binds K (fdOf K ("Once", some "__init__")) ["self", "alphabet", "name"] [] := (T.sb 7 rfl rfl).bindsN fun _ _ _ _ _ _ _ us hl => match us, hl with | [_, _, _], _ => rfl
theorem Ztg (T : Facts w K mg) : FnOk PP w K mg base (L2.CX PP w) 5 (fAd K ("Once", some "__init__")) (fdOf K ("Once", some "__init__")) ["self", "alphabet", "name"] (Zfo K) := by
 refine (T.sb 7 rfl rfl).ok Zs1 (fun vs H Q E h => Zq6 vs H Q E h) (fun cdv cc A outer s H vs Q E sd hr h => ⟨Ze8 PP w K E, id ?_, Zn5 T vs H Q E h⟩)
 exact Zd5 (Zh0 (Zi9 sd (T.n 42 rfl) (T.sg 0 rfl) (T.si 0 rfl) (FnOk.raw (Zdg T) (Zdj T) .nil) (hr.mono (by decide)) passL (pa_cons (pv 1) pa_nil))) (PSs.a (pss_cons (ps_fld (pv 0) (pv 2) rfl) (pss_one (ps_fld (pv 0) (Zf9 (pv 1) (Zjc T) (hr.mono (by decide)) (passes_call (takes_of rfl rfl rfl rfl) (fun _ _ _ _ h => h)) (pa_cons (pv 2) pa_nil)) rfl))))
instance : KFn PP w K mg base cs_ Zeb 5 none (fAd K ("Once", some "__init__")) (fdOf K ("Once", some "__init__")) ["self", "alphabet", "name"] := ⟨Ztg T.t, Zuk T.t, (T.t.sb 7 rfl rfl).kp, fun _ h => nomatch h⟩
instance : KFn PP w K mg base cs_ Zcn 1 none (fAd K ("Once", some "text")) (fdOf K ("Once", some "text")) ["self"] := ⟨fnA (N := Zwm) (T.t.F 19 rfl) (by walk_at "sc") Zmt Zqk (r := fun _ => Zdy) (by delta Zdy; walk_at "kk"), kbN (T.t.F 19 rfl) (by walk_at "b1"), (T.t.F 19 rfl).kp, fun _ h => nomatch h⟩
instance : KMe PP w K mg base cs_ .Once Zcn "text" 1 := ⟨⟨(T.t.cl 84 rfl), _, _, _, _, (T.t.mb 21 rfl), KFn.ok, KFn.bi (P := PP) (w := w) (mg := mg) (base := base) (cs := cs_) (g := Zcn), .nil⟩⟩
instance : KFn PP w K mg base cs_ Zca 1 none (fAd K ("Once", some "start")) (fdOf K ("Once", some "start")) ["self"] := ⟨fnA (N := Zuw) (T.t.F 20 rfl) (by walk_at "sc") Zk3 Zn2 (r := fun _ => Zft) (by delta Zft; walk_at "kk"), kbN (T.t.F 20 rfl) (by walk_at "b1"), (T.t.F 20 rfl).kp, fun _ h => nomatch h⟩
instance : KMe PP w K mg base cs_ .Once Zca "start" 1 := ⟨⟨(T.t.cl 84 rfl), _, _, _, _, (T.t.mb 16 rfl), KFn.ok, KFn.bi (P := PP) (w := w) (mg := mg) (base := base) (cs := cs_) (g := Zca), .nil⟩⟩
instance : KFn PP w K mg base cs_ Zco 1 none (fAd K ("Once", some "step")) (fdOf K ("Once", some "step")) ["self", "state", "sign"] := ⟨fnA (N := Zwn) (T.t.F 21 rfl) (by walk_at "sc") Zmu Zql (r := fun _ => Zdz) (by delta Zdz; walk_at "kk"), kbN (T.t.F 21 rfl) (by walk_at "b3"), (T.t.F 21 rfl).kp, fun _ h => nomatch h⟩
instance : KMe PP w K mg base cs_ .Once Zco "step" 1 := ⟨⟨(T.t.cl 84 rfl), _, _, _, _, (T.t.mb 11 rfl), KFn.ok, KFn.bi (P := PP) (w := w) (mg := mg) (base := base) (cs := cs_) (g := Zco), .nil⟩⟩
instance : KFn PP w K mg base cs_ Zdk 1 none (fAd K ("Once", some "end")) (fdOf K ("Once", some "end")) ["self", "state"] := ⟨fnA (N := Zy4) (T.t.F 22 rfl) (by walk_at "sc") Zn9 Zs6 (r := fun _ => Zi6) (by delta Zi6; walk_at "kk"), kbN (T.t.F 22 rfl) (by walk_at "b2"), (T.t.F 22 rfl).kp, fun _ h => nomatch h⟩
instance : KMe PP w K mg base cs_ .Once Zdk "end" 1 := ⟨⟨(T.t.cl 84 rfl), _, _, _, _, (T.t.mb 6 rfl), KFn.ok, KFn.bi (P := PP) (w := w) (mg := mg) (base := base) (cs := cs_) (g := Zdk), .nil⟩⟩
theorem Zs0 (T : Facts w K mg) (c0 : CS) (M0 : Mem) {E : XK} {Ed : DX} (px : PoX ⟨K, cs_, c0, M0⟩ c0 M0 Ed E) : SimS ⟨K, cs_, c0, M0⟩ (Zf7 PP w K E) (Zez Ed) :=
 Zao (Zdf (Zfq (Zu2 T) Zkr (by walk_at "sa"))) (Zao (Zen (Zst (by walk_at "sa") (Zl0 (Zlz (Zfc (fun _ => rfl) Zkr Zjr Zah (by walk_at "sa"))))) (Zet (k := .BadStage) rfl px (by walk_at "sa")) Zde) (Zb7 (f := .sign) (csok T) Zah Zah))
theorem Zqu (T : Facts w K mg) (vs : List V) (H : Hp) (Q : VK) (E : XK) (h : Zgt K vs H Q E) : Zf7 PP w K E { nx := fun _ H' => Q .non H', rt := Q } (L2.start Zj1 vs) H :=
 Ze0 (N := Zj1) (t := fun E => Zf7 PP w K E) (d := fun E => Zez E) (fun S E Ed hK hc px => by obtain ⟨K, cs, c0, M0⟩ := S; cases hK; cases hc; exact Zs0 T c0 M0 px) Ztb vs H Q E h
theorem Zts (vs : List V) (H : Hp) (Q : VK) (E : XK) (h : Zgt K vs H Q E) : vs.length = 3 := Zdp Zoe vs H Q E h
theorem Zvd : Zb5 Zj1 ["self", "alphabet", "sign"] (defScope Zu4) := ⟨rfl, rfl, rfl, by decide +kernel, rfl, by decide +kernel, by decide +kernel, by decide +kernel⟩
theorem Zwc (T : Facts w K mg) : Binds K (fdOf K ("Add", some "__init__")) ["self", "alphabet", "sign"] [] := (T.sb 8 rfl rfl).bindsN fun _ _ _ _ _ _ _ us hl => match us, hl with | [_, _, _], _ => rfl
theorem Zvn (T : Facts w K mg) : FnOk PP w K mg base (L2.CX PP w) 3 (fAd K ("Add", some "__init__")) (fdOf K ("Add", some "__init__")) ["self", "alphabet", "sign"] (Zgt K) := by
 refine (T.sb 8 rfl rfl).ok Zvd (fun vs H Q E h => Zts vs H Q E h) (fun cdv cc A outer s H vs Q E sd hr h => ⟨Zf7 PP w K E, id ?_, Zqu T vs H Q E h⟩)
 exact Zd5 (Zh0 (Zi9 sd (T.n 42 rfl) (T.sg 0 rfl) (T.si 0 rfl) (FnOk.raw (Zdg T) (Zdj T) .nil) (hr.mono (by decide)) passL (pa_cons (pv 1) pa_nil))) (PSs.a (pss_cons (ps_if (PW.pt (pw_or (pt_cmpR (Z81 (hu64 hr)) (pe_callB Zrv rfl (T.n 36 rfl) (by decide +kernel) (pa_cons (pv 2) pa_nil)) pe_int (nomark _)) (pw_or1 (pt_not (pt_truth (Zf9 (pv 1) (Zo4 T) (hr.mono (by decide)) passL (pa_cons (pv 2) pa_nil)) (fun _ => rfl)))))) (pss_one (ps_raise rfl (takes_of rfl rfl rfl rfl) (pmk_oex (T.xc 1 rfl).o (T.i 45 rfl) (T.ti 45 rfl) (Zb2 T) (hr.mono (by decide)) (Zb4 T) .nil passL rfl (T.g 4 rfl) (pa_cons (Zg0 (by decide +kernel)) pa_nil)))) pss_nil) (pss_one (ps_fld (pv 0) (pv 2) rfl))))
instance : KFn PP w K mg base cs_ Ze5 3 none (fAd K ("Add", some "__init__")) (fdOf K ("Add", some "__init__")) ["self", "alphabet", "sign"] := ⟨Zvn T.t, Zwc T.t, (T.t.sb 8 rfl rfl).kp, fun _ h => nomatch h⟩
instance : KFn PP w K mg base cs_ Zdl 1 none (fAd K ("Add", some "text")) (fdOf K ("Add", some "text")) ["self"] := ⟨fnA (N := Zy7) (T.t.F 23 rfl) (by walk_at "sc") Zoc Zs9 (r := fun _ => Zex) (by delta Zex; walk_at "kk"), kbN (T.t.F 23 rfl) (by walk_at "b1"), (T.t.F 23 rfl).kp, fun _ h => nomatch h⟩
instance : KMe PP w K mg base cs_ .Add Zdl "text" 1 := ⟨⟨(T.t.cl 85 rfl), _, _, _, _, (T.t.mb 22 rfl), KFn.ok, KFn.bi (P := PP) (w := w) (mg := mg) (base := base) (cs := cs_) (g := Zdl), .nil⟩⟩
instance : KFn PP w K mg base cs_ Zcp 1 none (fAd K ("Add", some "start")) (fdOf K ("Add", some "start")) ["self"] := ⟨fnA (N := Zwr) (T.t.F 24 rfl) (by walk_at "sc") Zmz Zqr (r := fun _ => Zgy) (by delta Zgy; walk_at "kk"), kbN (T.t.F 24 rfl) (by walk_at "b1"), (T.t.F 24 rfl).kp, fun _ h => nomatch h⟩
instance : KMe PP w K mg base cs_ .Add Zcp "start" 1 := ⟨⟨(T.t.cl 85 rfl), _, _, _, _, (T.t.mb 17 rfl), KFn.ok, KFn.bi (P := PP) (w := w) (mg := mg) (base := base) (cs := cs_) (g := Zcp), .nil⟩⟩
instance : KFn PP w K mg base cs_ Zdm 1 none (fAd K ("Add", some "step")) (fdOf K ("Add", some "step")) ["self", "state", "sign"] := ⟨fnA (N := Zy8) (T.t.F 25 rfl) (by walk_at "sc") Zod Zta (r := fun _ => Zey) (by delta Zey; walk_at "kk"), kbN (T.t.F 25 rfl) (by walk_at "b3"), (T.t.F 25 rfl).kp, fun _ h => nomatch h⟩
instance : KMe PP w K mg base cs_ .Add Zdm "step" 1 := ⟨⟨(T.t.cl 85 rfl), _, _, _, _, (T.t.mb 12 rfl), KFn.ok, KFn.bi (P := PP) (w := w) (mg := mg) (base := base) (cs := cs_) (g := Zdm), .nil⟩⟩
instance : KFn PP w K mg base cs_ Ze6 1 none (fAd K ("Add", some "end")) (fdOf K ("Add", some "end")) ["self", "state"] := ⟨fnA (N := Z3q) (T.t.F 26 rfl) (by walk_at "sc") Zq5 Zvi (r := fun _ => Zfw) (by delta Zfw; walk_at "kk"), kbN (T.t.F 26 rfl) (by walk_at "b2"), (T.t.F 26 rfl).kp, fun _ h => nomatch h⟩
instance : KMe PP w K mg base cs_ .Add Ze6 "end" 1 := ⟨⟨(T.t.cl 85 rfl), _, _, _, _, (T.t.mb 7 rfl), KFn.ok, KFn.bi (P := PP) (w := w) (mg := mg) (base := base) (cs := cs_) (g := Ze6), .nil⟩⟩
instance : KHm Ztz "end" := ⟨Ydw⟩
instance : KMo PP w K mg base cs_ Ztz "end" 2 := ⟨by rintro C sp ⟨k, hk, rfl, q, hg, rfl⟩; cases k <;> first | (cases hg; done) | (cases hg; exact kme (by decide)) | exact absurd hk (by decide)⟩
instance : KHm Zjs "step" := ⟨Z9z⟩
instance : KMo PP w K mg base cs_ Zjs "step" 2 := ⟨by rintro C sp ⟨k, hk, rfl, q, hg, rfl⟩; cases k <;> first | (cases hg; done) | (cases hg; exact kme (by decide)) | exact absurd hk (by decide)⟩
instance : KHm Zia "start" := ⟨Z5b⟩
instance : KMo PP w K mg base cs_ Zia "start" 2 := ⟨by rintro C sp ⟨k, hk, rfl, q, hg, rfl⟩; cases k <;> first | (cases hg; done) | (cases hg; exact kme (by decide)) | exact absurd hk (by decide)⟩
instance : KFn PP w K mg base cs_ Zbo 3 none (fAd K ("Stage", some "__call__")) (fdOf K ("Stage", some "__call__")) ["self", "word"] := ⟨fnA (N := Zuu) (T.t.F 27 rfl) (by walk_at "sc") Zk1 Zn0 (r := Zc0) (by delta Zc0; walk_at "kk"), kbN (T.t.F 27 rfl) (by walk_at "b2"), (T.t.F 27 rfl).kp, fun _ h => nomatch h⟩
instance : KFn PP w K mg base cs_ Zfg 8 (some "read_drop") (fAd K ("read_drop", none)) (fdOf K ("read_drop", none)) ["alphabet", "name", "parts"] := ⟨fnA (N := Zwg) (T.t.F 28 rfl) (by walk_at "sc") Zmn Zqd (r := Zds) (by delta Zds; walk_at "kk"), kbN (T.t.F 28 rfl) (by walk_at "b3"), (T.t.F 28 rfl).kp, fun | _, rfl => (T.t.g 30 rfl)⟩
instance : KFn PP w K mg base cs_ Zc2 9 (some "read_stage") (fAd K ("read_stage", none)) (fdOf K ("read_stage", none)) ["alphabet", "text"] := ⟨fnA (N := Zuq) (T.t.F 29 rfl) (by walk_at "sc") Zkw Znv (r := Zcv) (by delta Zcv; walk_at "kk"), kbN (T.t.F 29 rfl) (by walk_at "b2"), (T.t.F 29 rfl).kp, fun | _, rfl => (T.t.g 31 rfl)⟩
theorem Zp7 (T : Facts w K mg) (c0 : CS) (M0 : Mem) {E : XK} {Ed : DX} (px : PoX ⟨K, cs_, c0, M0⟩ c0 M0 Ed E) : SimS ⟨K, cs_, c0, M0⟩ (Ze7 PP w K E) (Zdw Ed) :=
 Zao (Zen (Zf8 (Zhn Z34 (by walk_at "sa") (Zp2 (k := .Rule) (T.cr 2 rfl) (T.cv 2 rfl) fun _ => rfl))) (Zoy (k := .BadRule) (f := .stage) (g := .what) rfl px (Zhp (Zhn Zow (Zp2 (k := .Rule) (T.cr 2 rfl) (T.cv 2 rfl) fun _ => rfl) (Zp4 fun _ => rfl)) (by walk_at "sa"))) Zde) (Zao (Zl4 (Zlc Zah) Zho (Zen (Zf8 (Zhn Zz7 (Zp1 (f := .alphabet) (csok T) Zah) Zah)) (Zoz (k := .Mixed) px) Zde)) (Zao (Zb7 (f := .alphabet) (csok T) Zah Zah) (Zb7 (f := .stages) (csok T) Zah (Zss Zah))))
theorem Zn4 (T : Facts w K mg) (vs : List V) (H : Hp) (Q : VK) (E : XK) (h : Zj2 K vs H Q E) : Ze7 PP w K E { nx := fun _ H' => Q .non H', rt := Q } (L2.start Zhc vs) H :=
 Ze0 (N := Zhc) (t := fun E => Ze7 PP w K E) (d := fun E => Zdw E) (fun S E Ed hK hc px => by obtain ⟨K, cs, c0, M0⟩ := S; cases hK; cases hc; exact Zp7 T c0 M0 px) Zqi vs H Q E h
theorem Zj4 : FnScope Zhc ["self", "alphabet", "stages"] (defScope Zsl) := ⟨rfl, rfl, rfl, by decide +kernel, rfl, by decide +kernel, by decide +kernel⟩
theorem Ztf (T : Facts w K mg) : FnR PP w K mg base (L2.CX PP w) 3 (fAd K ("Rule", some "__init__")) (Zly 2 (Zj2 K)) := by
 refine FunD.star (ps := ["self", "alphabet"]) (pv := "stages") (T.F 30 rfl) Zj4 StX.cxUp (fun kV doc pm an cdv ct => StX.bind_star2 (B := fun us => bindArgs (PySem.W.fnOf _ _ _ _ _ .none kV doc pm an cdv ct) ⟨us, []⟩) (fun _ _ => rfl) (fun _ _ _ _ => rfl)) (fun cdv A outer s H vs Q E hr h => ⟨Ze7 PP w K E, id ?_, Zn4 T vs H Q E h⟩)
 exact pss_cons (ps_if (pt_cmpR Yca (pe_callB Zrv rfl (T.n 36 rfl) (by decide +kernel) (pa_cons (pv 2) pa_nil)) (pe_cval (pe_glob rfl (T.g 13 rfl) rfl)) (nomark _)) (pss_one (ps_raise rfl (takes_of rfl rfl rfl rfl) (pmk_oex (T.xc 4 rfl).o (T.i 47 rfl) (T.ti 47 rfl) (Zmk T) (hr.mono (by decide)) (Znk T) .nil passL rfl (T.g 3 rfl) (pa_cons (pe_op Zte (pe_cval (pe_glob rfl (T.g 13 rfl) rfl)) pe_int) (pa_cons (Zg0 (by decide +kernel)) pa_nil))))) pss_nil) (pss_cons (ps_for PassesOwn.leaving rfl (pi_tup (pv 2)) (pg_name (i := 3) Zj4.nd rfl (by first | exact Or.inl rfl | exact Or.inr rfl)) (pss_one (ps_if (pt_cmpR (Z6v (Zn7 T) (hr.mono (by decide)) (T.me 96 rfl) (T.ne 0 rfl) (Zoj T) passL) (pe_fld (pv 3) rfl) (pv 1) (nomark _)) (pss_one (ps_raise rfl (takes_of rfl rfl rfl rfl) (Z4f PySem.F.excBase_ValueError (T.e0 0 rfl) (T.g 10 rfl) (T.xc 3 rfl).o.kC (raises_own (T.xc 3 rfl).o.exC (T.xc 3 rfl).o.tyC) rfl))) pss_nil))) (pss_cons (ps_fld (pv 0) (pv 1) rfl) (pss_one (ps_fld (pv 0) (pe_tupleOf rfl (T.n 43 rfl) (pv 2)) rfl))))
instance : KFs PP w K mg base cs_ Zcm 3 (fAd K ("Rule", some "__init__")) := ⟨Ztf T.t⟩
instance : KHm Zm3 "text" := ⟨Z9y⟩
instance : KMo PP w K mg base cs_ Zm3 "text" 2 := ⟨by rintro C sp ⟨k, hk, rfl, q, hg, rfl⟩; cases k <;> first | (cases hg; done) | (cases hg; exact kme (by decide)) | exact absurd hk (by decide)⟩
instance : KFn PP w K mg base cs_ Zbq 3 none (fAd K ("Rule", some "text")) (fdOf K ("Rule", some "text")) ["self"] := ⟨fnA (N := Zwk) (T.t.F 31 rfl) (by walk_at "sc") Zmr Zqh (r := fun _ => Zdv) (by delta Zdv; walk_at "kk"), kbN (T.t.F 31 rfl) (by walk_at "b1"), (T.t.F 31 rfl).kp, fun _ h => nomatch h⟩
instance : KHm (gm1 .Rule Zbq) "text" := ⟨gn1 (by decide +kernel)⟩
instance : KMe PP w K mg base cs_ .Rule Zbq "text" 3 := ⟨⟨(T.t.cl 86 rfl), _, _, _, _, (T.t.mb 24 rfl), KFn.ok, KFn.bi (P := PP) (w := w) (mg := mg) (base := base) (cs := cs_) (g := Zbq), .nil⟩⟩
instance : KFn PP w K mg base cs_ Zbp 4 none (fAd K ("Rule", some "trace")) (fdOf K ("Rule", some "trace")) ["self", "word"] := ⟨fnK (N := Zuv) (T.t.F 32 rfl) (by walk_at "sc") Zk2 Zn1 (r := Zc1) (by delta Zc1; walk_at "kk"), kbN (T.t.F 32 rfl) (by walk_at "b2"), (T.t.F 32 rfl).kp, fun _ h => nomatch h⟩
instance : KHm (gm1 .Rule Zbp) "trace" := ⟨gn1 (by decide +kernel)⟩
instance : KMe PP w K mg base cs_ .Rule Zbp "trace" 4 := ⟨⟨(T.t.cl 86 rfl), _, _, _, _, (T.t.mb 23 rfl), KFn.ok, KFn.bi (P := PP) (w := w) (mg := mg) (base := base) (cs := cs_) (g := Zbp), .nil⟩⟩
instance : KFn PP w K mg base cs_ Zbr 5 none (fAd K ("Rule", some "__call__")) (fdOf K ("Rule", some "__call__")) ["self", "word"] := ⟨fnA (N := Zwl) (T.t.F 33 rfl) (by walk_at "sc") Zms Zqj (r := Zdx) (by delta Zdx; walk_at "kk"), kbN (T.t.F 33 rfl) (by walk_at "b2"), (T.t.F 33 rfl).kp, fun _ h => nomatch h⟩
instance : KFn PP w K mg base cs_ Zdh 10 (some "read_stages") (fAd K ("read_stages", none)) (fdOf K ("read_stages", none)) ["alphabet", "texts"] := ⟨fnA (N := Zr3) (T.t.F 34 rfl) (by walk_at "sc") Zjf Zma (r := fun _ => Zce) (by delta Zce; walk_at "kk"), kbN (T.t.F 34 rfl) (by walk_at "b2"), (T.t.F 34 rfl).kp, fun | _, rfl => (T.t.g 32 rfl)⟩
instance : KFn PP w K mg base cs_ Ze4 4 none (fAd K ("Lot", some "__init__")) (fdOf K ("Lot", some "__init__")) ["self", "rules"] := ⟨fnK (N := Zy5) (T.t.F 35 rfl) (by walk_at "sc") Zoa Zs7 (r := fun _ => Zew) (by delta Zew; walk_at "kk"), kbN (T.t.F 35 rfl) (by walk_at "b2"), (T.t.F 35 rfl).kp, fun _ h => nomatch h⟩
theorem Zm2 (T : Facts w K mg) : KB (L2.CX PP w) PP w K mg base cs_ Zj0 "Lot.made" (defScope Zlt) (cmAd K ("Lot", some "made")) 10 (defBody Zlt) (fun _ => Zev) := by
 haveI : FT w K mg := ⟨T⟩
 delta Zev
 walk_at "kk"
theorem Ztj (T : Facts w K mg) : FnRV PP w K mg base (L2.CX PP w) 11 (cmAd K ("Lot", some "made")) 2 ["depth"] catV (spD K cs_ Za5) := fnV (N := Zj0) (T.M 0 rfl) (by walk_at "sc") (FunD.Yal (ps := ["cls", "alphabet", "depth"]) (pv := "stages") (T.M 0 rfl) 2 ["depth"] (fun kV doc pm an cdv ct us rest ws hu hw => match us, hu, ws, hw, rest with | [_, _], _, [_], _, [] => rfl | [_, _], _, [_], _, _ :: _ => rfl)) (fun _ _ _ _ a b => a.append b) (fun vs zs h1 h2 => fnV.catL h1 h2) Zj5 (Zm2 T)
instance : KCmV PP w K mg base cs_ .Lot Za5 catV "made" 2 ["depth"] 11 := ⟨⟨_, _, (T.t.cr 1 rfl), (T.t.cm 0 rfl rfl).choose_spec, Ztj T.t⟩⟩
instance : KCmV PP w K mg base cs_ .Lot Za5 (kwV 2) "made" 2 [] 11 := ⟨⟨_, _, (T.t.cr 1 rfl), (T.t.cm 0 rfl rfl).choose_spec, let ⟨_, rd, hb⟩ := FunD.Yam (ps := ["cls", "alphabet", "depth"]) (pv := "stages") (T.t.M 0 rfl) 2 (fun D doc pm an cdv ct us rest d hu => match us, hu, rest with | [_, _], _, [] => ⟨_, _, _, _, _, _, rfl, rfl, rfl⟩ | [_, _], _, _ :: _ => ⟨_, _, _, _, _, _, rfl, rfl, rfl⟩); fnV (N := Zj0) (T.t.M 0 rfl) (by walk_at "sc") hb (fun _ _ _ _ a _ => a.append (.cons rd .nil)) (fun vs zs h1 h2 => fnV.kwL h1) Zj5 (Zm2 T.t)⟩⟩
instance : KFn PP w K mg base cs_ Ze3 1 none (fAd K ("Lot", some "__len__")) (fdOf K ("Lot", some "__len__")) ["self"] := ⟨fnA (N := Z3p) (T.t.F 36 rfl) (by walk_at "sc") Zq4 Zvh (r := fun _ => Zfu) (by delta Zfu; walk_at "kk"), kbN (T.t.F 36 rfl) (by walk_at "b1"), (T.t.F 36 rfl).kp, fun _ h => nomatch h⟩
instance : KFn PP w K mg base cs_ Zar 4 none (fAd K ("Lot", some "texts")) (fdOf K ("Lot", some "texts")) ["self"] := ⟨fnK (N := Zwo) (T.t.F 37 rfl) (by walk_at "sc") Zmw Zqn (r := fun _ => Zd1) (by delta Zd1; walk_at "kk"), kbN (T.t.F 37 rfl) (by walk_at "b1"), (T.t.F 37 rfl).kp, fun _ h => nomatch h⟩
instance : KHm (gm1 .Lot Zar) "texts" := ⟨gn1 (by decide +kernel)⟩
instance : KMe PP w K mg base cs_ .Lot Zar "texts" 4 := ⟨⟨(T.t.cl 87 rfl), _, _, _, _, (T.t.mb 25 rfl), KFn.ok, KFn.bi (P := PP) (w := w) (mg := mg) (base := base) (cs := cs_) (g := Zar), .nil⟩⟩
instance : KFn PP w K mg base cs_ Zm5 1 (some "_law_bag") (fAd K ("_law_bag", none)) (fdOf K ("_law_bag", none)) ["_law_script"] := ⟨fnK (N := Yav) (T.t.F 38 rfl) (by walk_at "sc") Zvq Z03 (r := fun _ => Zmf) (by delta Zmf; walk_at "kk"), kbN (T.t.F 38 rfl) (by walk_at "b1"), (T.t.F 38 rfl).kp, fun | _, rfl => (T.t.g 16 rfl)⟩
instance : KFn PP w K mg base cs_ Zak 1 (some "_law_take") (fAd K ("_law_take", none)) (fdOf K ("_law_take", none)) ["_law_bag_here", "_law_size"] := ⟨fnA (N := Z5z) (T.t.F 39 rfl) (by walk_at "sc") Ztq Zyl (r := fun _ => Zhu) (by delta Zhu; walk_at "kk"), kbN (T.t.F 39 rfl) (by walk_at "b2"), (T.t.F 39 rfl).kp, fun | _, rfl => (T.t.g 25 rfl)⟩
instance : KFn PP w K mg base cs_ Zea 2 (some "_law_letters") (fAd K ("_law_letters", none)) (fdOf K ("_law_letters", none)) ["_law_bag_here", "_law_top"] := ⟨fnA (N := Zwi) (T.t.F 40 rfl) (by walk_at "sc") Zmp Zqf (r := fun _ => Zdu) (by delta Zdu; walk_at "kk"), kbN (T.t.F 40 rfl) (by walk_at "b2"), (T.t.F 40 rfl).kp, fun | _, rfl => (T.t.g 17 rfl)⟩
instance : KFn PP w K mg base cs_ Ze2 2 (some "_law_vowels") (fAd K ("_law_vowels", none)) (fdOf K ("_law_vowels", none)) ["_law_bag_here", "_law_letters_here"] := ⟨fnA (N := Zy3) (T.t.F 41 rfl) (by walk_at "sc") Zn8 Zs5 (r := fun _ => Zeu) (by delta Zeu; walk_at "kk"), kbN (T.t.F 41 rfl) (by walk_at "b2"), (T.t.F 41 rfl).kp, fun | _, rfl => (T.t.g 26 rfl)⟩
instance : KFn PP w K mg base cs_ Zfh 2 (some "_law_name") (fAd K ("_law_name", none)) (fdOf K ("_law_name", none)) ["_law_bag_here", "_law_letters_here"] := ⟨fnA (N := Z50) (T.t.F 42 rfl) (by walk_at "sc") Ztr Zym (r := fun _ => Zhv) (by delta Zhv; walk_at "kk"), kbN (T.t.F 42 rfl) (by walk_at "b2"), (T.t.F 42 rfl).kp, fun | _, rfl => (T.t.g 20 rfl)⟩
instance : KFn PP w K mg base cs_ Zf0 3 (some "_law_stage") (fAd K ("_law_stage", none)) (fdOf K ("_law_stage", none)) ["_law_bag_here", "_law_letters_here"] := ⟨fnA (N := Z3m) (T.t.F 43 rfl) (by walk_at "sc") Zq1 Zve (r := fun _ => Zfr) (by delta Zfr; walk_at "kk"), kbN (T.t.F 43 rfl) (by walk_at "b2"), (T.t.F 43 rfl).kp, fun | _, rfl => (T.t.g 23 rfl)⟩
instance : KFn PP w K mg base cs_ Zbz 1 (some "_law_stage_text") (fAd K ("_law_stage_text", none)) (fdOf K ("_law_stage_text", none)) ["_law_stage_here"] := ⟨fnA (N := Zol) (T.t.F 44 rfl) (by walk_at "sc") Zh3 Zkp (r := fun _ => Zai) (by delta Zai; walk_at "kk"), kbN (T.t.F 44 rfl) (by walk_at "b1"), (T.t.F 44 rfl).kp, fun | _, rfl => (T.t.g 24 rfl)⟩
instance : KFn PP w K mg base cs_ Zdi 2 (some "_law_rule_text") (fAd K ("_law_rule_text", none)) (fdOf K ("_law_rule_text", none)) ["_law_stages"] := ⟨fnA (N := Zr4) (T.t.F 45 rfl) (by walk_at "sc") Zjg Zmb (r := fun _ => Zcf) (by delta Zcf; walk_at "kk"), kbN (T.t.F 45 rfl) (by walk_at "b1"), (T.t.F 45 rfl).kp, fun | _, rfl => (T.t.g 21 rfl)⟩
instance : KFn PP w K mg base cs_ Zd9 1 (some "_law_members") (fAd K ("_law_members", none)) (fdOf K ("_law_members", none)) ["_law_letters_here", "_law_vowels_here", "_law_name_here"] := ⟨fnA (N := Zwh) (T.t.F 46 rfl) (by walk_at "sc") Zmo Zqe (r := fun _ => Zdt) (by delta Zdt; walk_at "kk"), kbN (T.t.F 46 rfl) (by walk_at "b3"), (T.t.F 46 rfl).kp, fun | _, rfl => (T.t.g 19 rfl)⟩
instance : KFn PP w K mg base cs_ Zid 2 (some "_law_apply") (fAd K ("_law_apply", none)) (fdOf K ("_law_apply", none)) ["_law_letters_here", "_law_vowels_here", "_law_stage_here", "_law_word_here"] := ⟨fnA (N := Z3o) (T.t.F 47 rfl) (by walk_at "sc") Zq3 Zvg (r := fun _ => Zbh) (by delta Zbh; walk_at "kk"), kbN (T.t.F 47 rfl) (by walk_at "b4"), (T.t.F 47 rfl).kp, fun | _, rfl => (T.t.g 15 rfl)⟩
instance : KFn PP w K mg base cs_ Zic 3 (some "_law_short") (fAd K ("_law_short", none)) (fdOf K ("_law_short", none)) ["_law_letters_here", "_law_vowels_here", "_law_stages", "_law_word_here"] := ⟨fnA (N := Z3n) (T.t.F 48 rfl) (by walk_at "sc") Zq2 Zvf (r := fun _ => Zfs) (by delta Zfs; walk_at "kk"), kbN (T.t.F 48 rfl) (by walk_at "b4"), (T.t.F 48 rfl).kp, fun | _, rfl => (T.t.g 22 rfl)⟩
instance : KFn PP w K mg base cs_ Zib 2 (some "_law_word") (fAd K ("_law_word", none)) (fdOf K ("_law_word", none)) ["_law_bag_here", "_law_signs", "_law_top"] := ⟨fnA (N := Z5y) (T.t.F 49 rfl) (by walk_at "sc") Ztp Zyk (r := fun _ => Zht) (by delta Zht; walk_at "kk"), kbN (T.t.F 49 rfl) (by walk_at "b3"), (T.t.F 49 rfl).kp, fun | _, rfl => (T.t.g 27 rfl)⟩
instance : KFn PP w K mg base cs_ Zgf 12 (some "_law_made") (fAd K ("_law_made", none)) (fdOf K ("_law_made", none)) ["_law_alphabet", "_law_texts", "_law_top"] := ⟨fnA (N := Z51) (T.t.F 50 rfl) (by walk_at "sc") Zj8 Zyn (r := fun _ => Zhw) (by delta Zhw; walk_at "kk"), kbN (T.t.F 50 rfl) (by walk_at "b3"), (T.t.F 50 rfl).kp, fun | _, rfl => (T.t.g 18 rfl)⟩
end
section
variable {w : World} {K : PySem.W.Frag} {mg : Str → Option Value} {base : Heap}
theorem Ycd (T : Facts w K mg) : FnOk PP w K mg base CX0 13 (fAd K ("law", none)) (fdOf K ("law", none)) ["_law_script"] (spD K cs_ Z2h) := haveI : FT w K mg := ⟨T⟩; fnK (N := Yg5) (T.F 51 rfl) (by walk_at "sc") Z1s Z8x (r := fun _ => Z06) (by delta Z06; walk_at "kk")
end
end Cl.Kl
namespace Cl.Kl
open PySem PySem.Spec PyProof.Rows L2 He
theorem Ycn {w : World} {K : PySem.W.Frag} {h : Heap} {mg : Str → Option Value} {f : Addr} (X : K.In h) (G : h.Ns mainGlobals mg) (hfa : mg ("law" : Str) = some (.ref f)) (c : Zwf fa fnd fns fm ts ex w K) :
  ∃ fd : FuncData, (∀ (s : Shared) (v : Value), BindsTo s fd ⟨[v], []⟩ [("_law_script", v)]) ∧ ∀ base : Heap, K.In base → base.Ns mainGlobals mg → FnOk PP w K mg base CX0 13 f fd ["_law_script"] (Z59 K) := by
 have T := Z5e X G c
 have e := hfa.symm.trans (T.g 29 rfl)
 cases e
 have b := FunD.bindsA (ps := ["_law_script"]) (T.F 51 rfl) fun _ _ _ _ _ _ us hl => match us, hl with | [_], _ => rfl
 exact ⟨_, fun s v => b s [v] rfl, fun base _ _ => Ycd T⟩
end Cl.Kl
theorem PySem.Challenge.cw_cliplore_k53_lots_made_holds : PySem.Challenge.rw_cliplore_k53_lots_made.Holds := by
 refine Cl.Kl.early fun w K h mg f KX G hmg c => ?_
 obtain ⟨fd, hb, hF⟩ := Cl.Kl.Ycn (w := w) KX G hmg c
 exact ⟨fd, Cl.Kl.Z59 K, hb, fun H a ns hl _ hS => Cl.Kl.Zz5 hl hS fun _ => rfl, hF⟩
