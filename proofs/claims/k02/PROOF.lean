import PyProof.Rows.All
import HandS.Call
import HandS.List
import HandS.TupAny
import HandS.TupMul
import Wide.All
import OpenK.AllK
import Wide.FinOn
import HandS.ForMost
import HandS.Exc
import HandS.TryOnly
import HandS.ExcOwn
import HandS.TryMany
import HandS.Lambda
import HandS.Flow
import HandS.Wide
import HandS.Walk
import HandS.IsInst
import HandS.FStr
import HandS.Conv
import HandS.Zip
import KE.GoesNew
import KE.GoesEnum
import KE.GoesZip
import KE.GoesMore
import HandS.ExcCtx
import HandS.Defaults
import HandS.MakeKw
import PyProof.ReprRoads
import OpenK.KOps
import HandS.RaiseMore
import PyProof.ReprLen
import PyProof.FitsInt
import PyProof.Conv_bool
import KE.KLam
import KE.KNest
import HandS.EndTab
import HandS.HeadHook4
import KE.KNestM
import HandS.Ends
import KE.SortKeyHeap
import HandS.SortKw
import HandS.Star
import KE.SortData
import HandS.ExcValue
import HandS.Style
import KE.KIndexOf
import HandS.Text
import HandS.ExcIs
import HandS.Small
import KE.KExcIs
import HandS.Hot
import KE.KExcInit
import PySem.Challenge.RW_cabshares_k02_rides_refused
import KE.OsRunLaw
set_option Elab.async false
set_option linter.all false
set_option maxRecDepth 100000
set_option maxHeartbeats 2000000
namespace Hd02
set_option maxHeartbeats 0
noncomputable section
open PySem PySem.W PySem.Calls PyProof.Rows
def kP : Prop := True
theorem kP_eq (_ : PySem.Challenge.rw_cabshares_k02_rides_refused.Holds) : kP = True := rfl
theorem pre : kP → True := by
  simp (disch := (w_on; o_law; k_headL)) only [kP_eq, implies_true]
abbrev R : OpenRow := OpenLaw.row PySem.Challenge.rw_cabshares_k02_rides_refused
abbrev qv : Program := view R.prog [32]
def names0 : List PySem.Str := ["_wall", "InputError", "SizeError", "InvalidStretch", "InvalidCosts", "InvalidRiders", "TooMany", "MOST_STRETCHES", "MOST_COST", "MOST_RIDERS", "MOST_ABOARD", "MOST_BAGS", "is_integer", "is_between", "check_costs", "is_rider", "check_riders", "aboard_at", "is_crowded", "Ride", "check_stretch", "_law_jug", "_law_drop", "_law_one", "_law_outcome", "_law_bad_prices", "_law_bad_folk", "_law_right"]
def names : List PySem.Str := names0
def as0 : List Addr := [2, 3, 15, 17, 18, 20, 21, 22, 29, 30, 31, 32, 35, 42, 43, 44, 45, 48, 55, 57, 58, 60, 61, 62, 63, 64, 67, 74, 76, 77, 79, 80, 81, 82, 83, 86, 93, 95, 96, 98]
def as1 : List Addr := [99, 100, 101, 102, 105, 112, 114, 115, 117, 118, 119, 120, 121, 124, 126, 127, 129, 130, 131, 133, 134, 136, 137, 138, 140, 141, 143, 144, 145, 147, 148, 150, 151, 152, 154, 155, 157, 158, 159, 162]
def as2 : List Addr := [163, 164, 167, 168, 176, 178, 179, 181, 182, 183, 185, 186, 188, 189, 190, 192, 193, 195, 196, 197, 199, 200, 202, 203, 204, 206, 207, 209, 210, 211, 213, 214, 216, 217, 218, 219, 220, 221, 222, 225]
def as3 : List Addr := [227, 228, 230, 231, 232, 234, 235, 237, 238, 239, 241, 242, 244, 245, 246, 248, 249, 251, 252, 253, 255, 256, 258, 259, 260, 262, 263, 265, 266, 267, 269, 270, 272, 273, 274, 276, 277, 279, 280, 281]
def as4 : List Addr := [284, 285]
def as : List Addr := as0 ++ as1 ++ as2 ++ as3 ++ as4
abbrev ts : List Addr := [275]
noncomputable abbrev hk : Hook := kmHook pre.heap_39 as (fun _ => by kernel_rfl) ts
noncomputable def ob (s : SharedT) : hk.α := (as.map (HeadRun.getT s), ts.map (HeadRun.getT s))
theorem ob_eq (s : SharedT) : ob s = hk.obs s.abs := Prod.ext (List.map_congr_left fun a _ => HeadRun.getT_eq s a) (List.map_congr_left fun a _ => HeadRun.getT_eq s a)
theorem run (w : World) : HeadRun.RunEq R qv hk ob 4844 names w := by
  intro os
  kernel_rfl
end
end Hd02

namespace CS
open PySem PySem.Spec PyProof.Rows L2
abbrev tupO (us : List Value) : Obj := { cls := .type "tuple", data := .seq us.toArray }
def SqD (K : PySem.W.Frag) (H : Hp) (a : Addr) (xs : List V) : Prop :=
  (∃ ob : Obj, H a = some (.frz ob (.tup xs)) ∧ ob.dict = none) ∨ ∃ (o : Obj) (its : Array Value) (n : Nat), K.lookup a = some o ∧ o.cls = .type "tuple" ∧ o.dict = none ∧ o.data = .seq its n ∧ its.size ≤ sizeLine ∧ Vals xs its.toList
theorem SqD.toT {K : PySem.W.Frag} {H : Hp} {a : Addr} {xs : List V} (h : SqD K H a xs) : SqT K H a xs := by
  rcases h with ⟨ob, h, _⟩ | ⟨o, its, n, h1, h2, _, h3, h4, h5⟩
  · exact .inl (.inr ⟨ob, h⟩)
  · exact .inr ⟨o, its, n, h1, h2, h3, h4, h5⟩
abbrev NewT (H : Hp) (Q : VK) (xs : List V) : Prop := ∀ (p : Addr) (ob : Obj), H p = none → ob.dict = none → Q (.ref p) (upd H p (.frz ob (.tup xs)))
section
variable {X : Cx} {pins : List (Addr × Obj)} {σ : L2.St} {H : Hp} {s : Shared} {Q : VK}
theorem lay_tup {h' : Heap} {us : List Value} {xs : List V} {tk : Nat} (I : Inv X pins σ H { s with heap := h' }) (rv : Vals xs us) (hz : xs.length ≤ sizeLine) (q : NewT H Q xs) :
    EP X pins σ Q (.ref h'.objs.size) { s with heap := h'.push (tupO us), toks := tk } := by
  have hn : H h'.objs.size = none := I.hok.fresh (Nat.le_refl _)
  have J := I.laid (a := h'.objs.size) (o := .frz (tupO us) (.tup xs)) (h' := h'.push (tupO us)) (t' := tk) (fun _ _ z => Heap.get?_push_of_some _ z) (Nat.le_refl _) ⟨Heap.get?_push_size _ rfl, hz, us, rv, IsTup.new _ _⟩
  exact ⟨.ref h'.objs.size, upd H h'.objs.size (.frz (tupO us) (.tup xs)), J, rfl, q _ _ hn rfl⟩
def tTupZ (t : TA) : TE := fun σ H Q => t σ H fun xs H1 => xs.length ≤ sizeLine ∧ NewT H1 Q xs
theorem pe_tupZ {es : List Expr} {t : TA} {pos : Pos} {k : Nat} (h : PA X es t) : PE X (.Tuple es k pos) (tTupZ t) := by
  constructor
  intro pins s σ H Q I hq
  refine wpAny_Tuple_spliced (thn (h.run pos pins s σ H _ I hq) ?_)
  rintro us s1 ⟨xs, H1, I1, rv, hz, q⟩
  exact ⟨by rw [← rv.length]; exact hz, lay_tup (s := s1) (h' := s1.heap) (tk := s1.toks) I1 rv hz q⟩
theorem divmodZ : CallR X (.builtin "divmod") (fun xs H Q => ∃ i j, xs = [.int i, .int j] ∧ CDiv i j ∧ NewT H Q [.int (i / j), .int (i % j)]) := by
  rintro pins s σ H xs us Q I rv ⟨i, j, rfl, ⟨hj, hj2⟩, q⟩
  obtain ⟨u1, u2, rfl, ⟨k1, rfl⟩, ⟨k2, rfl⟩⟩ := vals2 rv
  refine divmod_int (by omega) ?_ (.inl (PyProof.noPylong_small (by omega)))
  have e1 := Int.fdiv_eq_ediv_of_nonneg i (b := j) (by omega)
  have e2 := Int.fmod_eq_emod_of_nonneg i (b := j) (by omega)
  rw [e1, e2]
  exact lay_tup (s := s) (h' := s.heap) (xs := [.int (i / j), .int (i % j)]) (us := [.int (i / j) s.toks, .int (i % j) (s.toks + 1)]) I (.cons ⟨_, rfl⟩ (.cons ⟨_, rfl⟩ .nil)) (by show 2 ≤ sizeLine; decide) q
theorem tupleZ : CallR X (.type "tuple") (fun xs H Q => ∃ p ys, xs = [.ref p] ∧ ((SqL X.K H p ys ∧ NewT H Q ys) ∨ (SqT X.K H p ys ∧ Q (.ref p) H))) := by
  rintro pins s σ H xs us Q I rv ⟨p, ys, rfl, h⟩
  obtain ⟨u, rfl, e⟩ := vals1 rv
  cases e
  rcases h with ⟨hs, q⟩ | ⟨hs, q⟩
  · obtain ⟨its, ri, pl, hz⟩ := I.list hs
    have hl := ri.length
    refine call_tuple_list pl.isList (fun h' kp => ?_) (by rw [List.size_toArray]; omega)
    exact lay_tup (s := s) (h' := h') (tk := s.toks) (I.kept (t' := s.toks) kp) ri hz q
  · obtain ⟨its, ri, pl, _⟩ := I.tuple hs
    exact call_tuple_same pl ⟨.ref p, H, I, rfl, q⟩
def rCatZ (K : PySem.W.Frag) : R2 := fun x y H Q => ∃ a b xs ys, x = .ref a ∧ y = .ref b ∧ SqT K H a xs ∧ SqT K H b ys ∧ xs.length + ys.length ≤ sizeLine ∧ (xs = [] → Q (.ref b) H) ∧ (xs ≠ [] → ys = [] → Q (.ref a) H) ∧ NewT H Q (xs ++ ys)
theorem catZ : OpR X (binaryOp .Add) (rCatZ X.K) := by
  rintro pins s σ H x y v u Q I rx ry ⟨a, b, xs, ys, rfl, rfl, ha, hb, hz, q0, q1, q2⟩
  cases rx
  cases ry
  obtain ⟨us, ru, pu, _⟩ := I.tuple ha
  obtain ⟨ws, rw', pw, _⟩ := I.tuple hb
  by_cases hx : xs = []
  · subst hx
    cases ru
    exact cat_tup0 pu pw ⟨.ref b, H, I, rfl, q0 rfl⟩
  · have lu := ru.length
    have lw := rw'.length
    refine HT.cat_tup pu pw (fun z => hx (ru.nil_iff.mp z)) (fun z => ⟨.ref a, H, I, rfl, q1 hx (rw'.nil_iff.mp z)⟩) (fun z => ?_) (by omega)
    exact lay_tup (s := s) (h' := s.heap) (tk := s.toks) I (ru.append rw') (by rw [List.length_append]; exact hz) q2
def rSlZ (K : PySem.W.Frag) : V → Option Int → Option Int → Hp → VK → Prop := fun x lo hi H Q => ∃ a xs, x = .ref a ∧ SqT K H a xs ∧ (HT.sIx xs.length 0 lo = 0 ∧ HT.sIx xs.length xs.length hi = xs.length → Q (.ref a) H) ∧ NewT H Q (cutV xs lo hi)
theorem slZ : L2.SlR X (rSlZ X.K) := by
  rintro pins s σ H x v vl vu lo hi sl Q I rx hs pl pu ⟨a, xs, rfl, hx, q1, q2⟩
  cases rx
  obtain ⟨us, ru, ht, hz⟩ := I.tuple hx
  have hn : us.toArray.size = xs.length := by rw [List.size_toArray, ru.length]
  refine ⟨"tuple", _, PyProof.Rows.slot_tuple_getitem.lookup, ht.typeIs, ?_⟩
  by_cases hw : HT.sIx xs.length 0 lo = 0 ∧ HT.sIx xs.length xs.length hi = xs.length
  · exact getItem_tuple_whole ht hs pl pu (by rw [hn]; exact hw) ⟨.ref a, H, I, rfl, q1 hw⟩
  · refine HT.getItem_tuple_cut ht hs pl pu (by rw [hn]; exact hw) ?_ (by rw [hn]; exact hz)
    rw [hn]
    exact lay_tup (s := s) (h' := s.heap) (tk := s.toks) I ((ru.drop _).take _) (Nat.le_trans (cutV_length xs lo hi) hz) q2
theorem tuple_mulS (l : Addr) (items : Array Value) (n : Nat) (dd : Option Addr) (sl : Array (Option Value)) (x : Int) (u : Tok) (c0 : (decide (x < -(2 ^ 63)) || decide (x ≥ 2 ^ 63)) = false) (c1 : (items.isEmpty || x == 1) = true) :
    Meets (Builtin.«tuple.__mul__» ⟨[.ref l, .int x u], []⟩) (fun _ R s => s.heap.get? l = some { cls := .type "tuple", dict := dd, data := .seq items n, slots := sl } ∧ R (.ok (.ret (Value.ref l))) s) :=
  .of_wp fun prog w A R s h => by
    obtain ⟨hp, g, d, tk, os⟩ := s
    obtain ⟨hl, h⟩ := h
    have f1 := AutoSeq1.idx_int
    wp_walk using wpAny_loadPart' hl
    repeat (first
      | (refine wpAny_ite_false (decide_eq_false (by rw [c0]; exact Bool.false_ne_true)) ?_; wp_walk using wpAny_loadPart' hl)
      | (refine wpAny_ite_true (decide_eq_true (by rw [c1])) ?_; wp_walk using wpAny_loadPart' hl))
    exact ⟨_, rfl, h⟩
theorem tuple_mul0 (l : Addr) (items : Array Value) (n : Nat) (dd : Option Addr) (sl : Array (Option Value)) (x : Int) (u : Tok) (c0 : (decide (x < -(2 ^ 63)) || decide (x ≥ 2 ^ 63)) = false) (c1 : (items.isEmpty || x == 1) = false) (c2 : (decide (x ≤ 0) || items.isEmpty) = true) :
    Meets (Builtin.«tuple.__mul__» ⟨[.ref l, .int x u], []⟩) (fun _ R s => s.heap.get? l = some { cls := .type "tuple", dict := dd, data := .seq items n, slots := sl } ∧
      R (.ok (.ret (Value.ref s.heap.objs.size))) { s with heap := s.heap.push { cls := Value.type "tuple", data := Data.seq #[] }, toks := s.toks }) :=
  .of_wp fun prog w A R s h => by
    obtain ⟨hp, g, d, tk, os⟩ := s
    obtain ⟨hl, h⟩ := h
    have f1 := AutoSeq1.idx_int
    wp_walk using wpAny_loadPart' hl
    repeat (first
      | (refine wpAny_ite_false (decide_eq_false (by rw [c0]; exact Bool.false_ne_true)) ?_; wp_walk using wpAny_loadPart' hl)
      | (refine wpAny_ite_false (decide_eq_false (by rw [c1]; exact Bool.false_ne_true)) ?_; wp_walk using wpAny_loadPart' hl)
      | (refine wpAny_ite_true (decide_eq_true (by rw [c2])) ?_; wp_walk using wpAny_loadPart' hl))
    exact ⟨_, rfl, h⟩
def rRepZ (K : PySem.W.Frag) : R2 := fun x y H Q => ∃ l k xs, x = .ref l ∧ y = .int k ∧ SqT K H l xs ∧ -1000 ≤ k ∧ k ≤ 1000 ∧ xs.length ≤ 1000 ∧ (xs = [] ∨ k = 1 → Q (.ref l) H) ∧ (xs ≠ [] → k ≠ 1 → NewT H Q (List.replicate k.toNat xs).flatten)
theorem repZ : OpR X (binaryOp .Mult) (rRepZ X.K) := by
  rintro pins s σ H x y v u Q I rx ry ⟨l, k, xs, rfl, rfl, hT, h2, h1000, hz, q0, q⟩
  cases rx
  obtain ⟨t, rfl⟩ := ry
  obtain ⟨us, ru, ⟨⟨cls, dd, data, sl⟩, ho, hc, n, hd⟩, _⟩ := I.tuple hT
  simp only at hc hd
  subst hc hd
  have lu : us.length = xs.length := ru.length.symm
  have asz : us.toArray.size = xs.length := by rw [List.size_toArray, lu]
  have c0 : (decide (k < -(2 ^ 63)) || decide (k ≥ 2 ^ 63)) = false := by simp; omega
  refine wpAny_binaryOp_repeat_ref (T := "tuple") (U := "int") (by decide) ⟨_, ho, rfl⟩ (fun s' => typeIs_int s' k t) noFill_tuple_mul F.fills_int_mul F.slot_int_rmul repeat_tuple F.slot_int_index.lookup (call_meets F.slot_int_rmul (typeIs_int s k t) F.entry_int_rmul (F.args_int_rmul_2 _ _) (int_rmul_tuple k t l us.toArray n dd sl) ⟨ho, rfl, ⟨_, ho, rfl⟩, ?_⟩)
  by_cases hsame : xs = [] ∨ k = 1
  · have c1 : (us.toArray.isEmpty || k == 1) = true := by
      rcases hsame with z | z
      · rw [ru.nil_iff.mpr z]; rfl
      · rw [z]; simp
    exact call_meets (prog := X.prog) (w := X.w) (A := X.A) (E := X.xe) (s := s) F.slot_tuple_mul (show s.TypeIs (.ref l) "tuple" from ⟨_, ho, rfl⟩) F.entry_tuple_mul (F.args_tuple_mul_2 _ _) (tuple_mulS l us.toArray n dd sl k t c0 c1) (Q := EP X pins σ Q) ⟨ho, .ref l, H, I, rfl, q0 hsame⟩
  · rw [not_or] at hsame
    obtain ⟨hne, hk1⟩ := hsame
    have q := q hne hk1
    have ne : us ≠ [] := fun z => hne (ru.nil_iff.mp z)
    have emp : us.toArray.isEmpty = false := by cases us <;> first | exact absurd rfl ne | rfl
    have c1 : (us.toArray.isEmpty || k == 1) = false := by rw [emp]; simp; omega
    by_cases h0 : k ≤ 0
    · have c2 : (decide (k ≤ 0) || us.toArray.isEmpty) = true := by rw [emp]; simp; omega
      have e0 : k.toNat = 0 := by omega
      rw [e0] at q
      refine call_meets (prog := X.prog) (w := X.w) (A := X.A) (E := X.xe) (s := s) F.slot_tuple_mul (show s.TypeIs (.ref l) "tuple" from ⟨_, ho, rfl⟩) F.entry_tuple_mul (F.args_tuple_mul_2 _ _) (tuple_mul0 l us.toArray n dd sl k t c0 c1 c2) (Q := EP X pins σ Q) ⟨ho, ?_⟩
      exact lay_tup (s := s) (h' := s.heap) (tk := s.toks) (us := []) I .nil (Nat.zero_le _) q
    · have prod : k.toNat * xs.length ≤ 1000 * 1000 := Nat.mul_le_mul (by omega) hz
      have prodI : ((xs.length : Nat) : Int) * k ≤ 1000000 := by
        have b1 : ((xs.length : Nat) : Int) * k ≤ 1000 * k := Int.mul_le_mul_of_nonneg_right (by omega) (by omega)
        omega
      have fl : (List.replicate k.toNat us).flatten.length ≤ sizeLine := by
        rw [PyProof.Rows.lm_len_rep_flat, lu, sizeLine_eq]
        omega
      have c2 : (decide (k ≤ 0) || us.toArray.isEmpty) = false := by rw [emp]; simp; omega
      have c4 : Builtin.Tuple.tupleTooMany (((us.toArray.size : Nat) : Int) * k) = false := by
        unfold Builtin.Tuple.tupleTooMany
        rw [sizeLine_eq, asz]
        exact decide_eq_false (by omega)
      exact call_meets (prog := X.prog) (w := X.w) (A := X.A) (E := X.xe) (s := s) F.slot_tuple_mul (show s.TypeIs (.ref l) "tuple" from ⟨_, ho, rfl⟩) F.entry_tuple_mul (F.args_tuple_mul_2 _ _) (tuple_mulW l us.toArray n dd sl k t c0 c1 c2 (by rw [asz]; omega) c4 (by rw [size_rep, List.size_toArray]; exact fl)) (Q := EP X pins σ Q) ⟨ho, by
        rw [size_rep]
        exact lay_tup (s := s) (h' := s.heap) (tk := s.toks) I (ru.rep k.toNat) (by rw [PyProof.Rows.lm_len_rep_flat, sizeLine_eq]; omega) q⟩
end
end CS
namespace CS
open PySem PySem.Spec L2

inductive MV where
  | non | bl (b : Bool) | int (i : Int) | str (x : Str) | tup (xs : List MV)
  | ref (i : Nat) | fn (i : Nat) | cl (i : Nat) | ty (n : String)
  deriving Inhabited
inductive MO where
  | lst (xs : List MV) | frz (xs : List MV) | ins (k : Nat) (fs : List (Str × MV)) | dct
  deriving Inhabited
abbrev Sto := List MO
abbrev MX := Nat × List (Str × MV)
abbrev R (α : Type) := Option (Except MX α × Sto)
abbrev MEnv := List (Option MV)

def bnd {α β : Type} (r : R α) (f : α → Sto → R β) : R β :=
  match r with
  | none => none
  | some (.error x, st) => some (.error x, st)
  | some (.ok a, st) => f a st
def ret {α : Type} (a : α) (st : Sto) : R α := some (.ok a, st)

structure GC where
  P : Program
  w : World
  K : PySem.W.Frag
  mg : Str → Option Value
  base : Heap
  fa : Nat → Option Addr
  ca : Nat → Option Addr
  tb : List (Addr × Str)
  m0 : List Addr
  H0 : Hp

mutual
inductive RV (c : GC) (m : List Addr) (H : Hp) : MV → V → Prop
  | non : RV c m H .non .non
  | bl (b : Bool) : RV c m H (.bl b) (.bl b)
  | int (i : Int) : RV c m H (.int i) (.int i)
  | str (x : Str) : RV c m H (.str x) (.str x)
  | tup {a : Addr} {xs : List MV} {vs : List V} : SqD c.K H a vs → RVs c m H xs vs → RV c m H (.tup xs) (.ref a)
  | ref {i : Nat} {a : Addr} : m[i]? = some a → RV c m H (.ref i) (.ref a)
  | fn {i : Nat} {a : Addr} : c.fa i = some a → RV c m H (.fn i) (.ref a)
  | cl {i : Nat} {a : Addr} : c.ca i = some a → RV c m H (.cl i) (.ref a)
  | ty (n : String) : RV c m H (.ty n) (.ty n)
inductive RVs (c : GC) (m : List Addr) (H : Hp) : List MV → List V → Prop
  | nil : RVs c m H [] []
  | cons {x : MV} {v : V} {xs : List MV} {vs : List V} : RV c m H x v → RVs c m H xs vs → RVs c m H (x :: xs) (v :: vs)
end
abbrev RF (c : GC) (m : List Addr) (H : Hp) (fs : List (Str × MV)) (gs : List (Str × V)) : Prop :=
  Paired (fun (p : Str × MV) (q : Str × V) => p.1 = q.1 ∧ RV c m H p.2 q.2) fs gs

structure Ext (c : GC) (m : List Addr) (H : Hp) (m' : List Addr) (H' : Hp) : Prop where
  pre : ∃ t, m' = m ++ t
  tup : ∀ b xs, SqD c.K H b xs → SqD c.K H' b xs
  fresh : ∀ a ∈ m', a ∈ m ∨ H a = none
  frame : ∀ b o, H b = some o → b ∉ m → (∀ ps, o ≠ .tbl ps) → H' b = some o
  live : ∀ b, H b ≠ none → H' b ≠ none
theorem Ext.refl {c : GC} {m : List Addr} {H : Hp} : Ext c m H m H := ⟨⟨[], by simp⟩, fun _ _ h => h, fun _ h => .inl h, fun _ _ h _ _ => h, fun _ h => h⟩
theorem Ext.trans {c : GC} {m m1 m2 : List Addr} {H H1 H2 : Hp} (a : Ext c m H m1 H1) (b : Ext c m1 H1 m2 H2) : Ext c m H m2 H2 := by
  have fr : ∀ x ∈ m2, x ∈ m ∨ H x = none := fun x hx => by
    rcases b.fresh x hx with h | h
    · exact a.fresh x h
    · refine .inr ?_
      cases q : H x with
      | none => rfl
      | some o => exact absurd h (a.live x (by rw [q]; simp))
  refine ⟨?_, fun y xs h => b.tup y xs (a.tup y xs h), fr, fun y o h hm ht => b.frame y o (a.frame y o h hm ht) (fun z => ?_) ht, fun y h => b.live y (a.live y h)⟩
  · obtain ⟨t, e1⟩ := a.pre
    obtain ⟨u, e2⟩ := b.pre
    exact ⟨t ++ u, by rw [e2, e1]; simp⟩
  · rcases a.fresh y z with q | q
    · exact hm q
    · rw [h] at q; cases q
theorem Ext.at {c : GC} {m m' : List Addr} {H H' : Hp} (e : Ext c m H m' H') {i : Nat} {a : Addr} (h : m[i]? = some a) : m'[i]? = some a := by
  obtain ⟨t, rfl⟩ := e.pre
  have := (List.getElem?_eq_some_iff.mp h).1
  rw [List.getElem?_append_left this]
  exact h
mutual
theorem RV.mono {c : GC} {m m' : List Addr} {H H' : Hp} (e : Ext c m H m' H') : ∀ {x : MV} {v : V}, RV c m H x v → RV c m' H' x v
  | _, _, .non => .non
  | _, _, .bl b => .bl b
  | _, _, .int i => .int i
  | _, _, .str x => .str x
  | _, _, .tup h r => .tup (e.tup _ _ h) (RVs.mono e r)
  | _, _, .ref h => .ref (e.at h)
  | _, _, .fn h => .fn h
  | _, _, .cl h => .cl h
  | _, _, .ty n => .ty n
theorem RVs.mono {c : GC} {m m' : List Addr} {H H' : Hp} (e : Ext c m H m' H') : ∀ {xs : List MV} {vs : List V}, RVs c m H xs vs → RVs c m' H' xs vs
  | _, _, .nil => .nil
  | _, _, .cons h r => .cons (RV.mono e h) (RVs.mono e r)
end
section
variable {c : GC} {m m' : List Addr} {H H' : Hp}
theorem RF.mono (e : Ext c m H m' H') : ∀ {fs : List (Str × MV)} {gs : List (Str × V)}, RF c m H fs gs → RF c m' H' fs gs
  | _, _, .nil => .nil
  | _, _, .cons h r => .cons ⟨h.1, h.2.mono e⟩ (RF.mono e r)
theorem RVs.length : ∀ {xs : List MV} {vs : List V}, RVs c m H xs vs → xs.length = vs.length
  | _, _, .nil => rfl
  | _, _, .cons _ r => by simp [RVs.length r]
theorem RVs.append : ∀ {xs ys : List MV} {vs us : List V}, RVs c m H xs vs → RVs c m H ys us → RVs c m H (xs ++ ys) (vs ++ us)
  | _, _, _, _, .nil, s => s
  | _, _, _, _, .cons h r, s => .cons h (RVs.append r s)
theorem RVs.get : ∀ {xs : List MV} {vs : List V} {i : Nat} {v : V}, RVs c m H xs vs → vs[i]? = some v → ∃ x, xs[i]? = some x ∧ RV c m H x v
  | _, _, _, _, .nil, e => by simp at e
  | _, _, 0, _, .cons h _, e => by simp at e; subst e; exact ⟨_, by simp, h⟩
  | _, _, i + 1, v, .cons _ r, e => by
    obtain ⟨x, h1, h2⟩ := RVs.get (i := i) (v := v) r (by simpa using e)
    exact ⟨x, by simpa using h1, h2⟩
theorem RVs.get' : ∀ {xs : List MV} {vs : List V} {i : Nat} {x : MV}, RVs c m H xs vs → xs[i]? = some x → ∃ v, vs[i]? = some v ∧ RV c m H x v
  | _, _, _, _, .nil, e => by simp at e
  | _, _, 0, _, .cons h _, e => by simp at e; subst e; exact ⟨_, by simp, h⟩
  | _, _, i + 1, v, .cons _ r, e => by
    obtain ⟨x, h1, h2⟩ := RVs.get' (i := i) (x := v) r (by simpa using e)
    exact ⟨x, by simpa using h1, h2⟩
theorem RVs.set {x : MV} {v : V} (h : RV c m H x v) : ∀ {xs : List MV} {vs : List V} (i : Nat), RVs c m H xs vs → RVs c m H (xs.set i x) (vs.set i v)
  | _, _, _, .nil => .nil
  | _, _, 0, .cons _ r => .cons h r
  | _, _, i + 1, .cons g r => .cons g (RVs.set h i r)
theorem RVs.take : ∀ {xs : List MV} {vs : List V} (n : Nat), RVs c m H xs vs → RVs c m H (xs.take n) (vs.take n)
  | _, _, 0, _ => .nil
  | _, _, _ + 1, .nil => .nil
  | _, _, n + 1, .cons h r => .cons h (RVs.take n r)
theorem RVs.drop : ∀ {xs : List MV} {vs : List V} (n : Nat), RVs c m H xs vs → RVs c m H (xs.drop n) (vs.drop n)
  | _, _, 0, r => r
  | _, _, _ + 1, .nil => .nil
  | _, _, n + 1, .cons _ r => RVs.drop n r
theorem RVs.rep {xs : List MV} {vs : List V} (h : RVs c m H xs vs) : ∀ k : Nat, RVs c m H (List.replicate k xs).flatten (List.replicate k vs).flatten
  | 0 => .nil
  | k + 1 => by
    rw [List.replicate_succ, List.replicate_succ, List.flatten_cons, List.flatten_cons]
    exact h.append (RVs.rep h k)
theorem RVs.reverse : ∀ {xs : List MV} {vs : List V}, RVs c m H xs vs → RVs c m H xs.reverse vs.reverse
  | _, _, .nil => .nil
  | _, _, .cons h r => by
    rw [List.reverse_cons, List.reverse_cons]
    exact (RVs.reverse r).append (.cons h .nil)
theorem RF.look : ∀ {fs : List (Str × MV)} {gs : List (Str × V)} {f : Str} {x : MV}, RF c m H fs gs → fs.lookup f = some x → ∃ v, gs.lookup f = some v ∧ RV c m H x v
  | _, _, _, _, .nil, e => by simp at e
  | (p :: fs), (q :: gs), f, x, .cons h r, e => by
    obtain ⟨p1, p2⟩ := p
    obtain ⟨q1, q2⟩ := q
    obtain ⟨h1, h2⟩ := h
    simp only at h1
    subst h1
    rw [List.lookup_cons] at e ⊢
    cases hf : (f == p1) with
    | true =>
      rw [hf] at e
      simp only at e ⊢
      cases e
      exact ⟨_, rfl, h2⟩
    | false =>
      rw [hf] at e
      simp only at e ⊢
      exact RF.look r e
theorem RF.none : ∀ {fs : List (Str × MV)} {gs : List (Str × V)} {f : Str}, RF c m H fs gs → fs.lookup f = none → gs.lookup f = none
  | _, _, _, .nil, e => by simp
  | (p :: fs), (q :: gs), f, .cons h r, e => by
    obtain ⟨p1, p2⟩ := p
    obtain ⟨q1, q2⟩ := q
    obtain ⟨h1, h2⟩ := h
    simp only at h1
    subst h1
    rw [List.lookup_cons] at e ⊢
    cases hf : (f == p1) with
    | true => rw [hf] at e; cases e
    | false =>
      rw [hf] at e
      simp only at e ⊢
      exact RF.none r e
def putM (f : Str) (v : MV) : List (Str × MV) → List (Str × MV)
  | [] => [(f, v)]
  | (g, x) :: r => if g = f then (g, v) :: r else (g, x) :: putM f v r
theorem RF.put {f : Str} {x : MV} {v : V} (h : RV c m H x v) : ∀ {fs : List (Str × MV)} {gs : List (Str × V)}, RF c m H fs gs → RF c m H (putM f x fs) (putF f v gs)
  | _, _, .nil => .cons ⟨rfl, h⟩ .nil
  | (p :: fs), (q :: gs), .cons g r => by
    obtain ⟨p1, p2⟩ := p
    obtain ⟨q1, q2⟩ := q
    obtain ⟨h1, h2⟩ := g
    simp only at h1
    subst h1
    unfold putM putF
    by_cases e : p1 = f
    · rw [if_pos e, if_pos e]; exact .cons ⟨rfl, h⟩ r
    · rw [if_neg e, if_neg e]; exact .cons ⟨rfl, h2⟩ (RF.put h r)
theorem RF.len : ∀ {fs : List (Str × MV)} {gs : List (Str × V)}, RF c m H fs gs → fs.length = gs.length := fun r => Paired.length r
end

def RO (c : GC) (m : List Addr) (H : Hp) (a : Addr) : MO → Prop
  | .lst xs => ∃ vs, H a = some (.lst vs) ∧ RVs c m H xs vs
  | .frz xs => ∃ o vs, H a = some (.frz o (.lst vs)) ∧ RVs c m H xs vs
  | .ins k fs => ∃ C dx gs, c.ca k = some C ∧ H a = some (.ins C dx gs) ∧ RF c m H fs gs
  | .dct => H a = some (.dK [])
structure Rel (c : GC) (m : List Addr) (st : Sto) (H : Hp) : Prop where
  len : m.length = st.length
  nd : m.Nodup
  obj : ∀ (i : Nat) (o : MO), st[i]? = some o → ∃ a, m[i]? = some a ∧ RO c m H a o
  gr : Ext c c.m0 c.H0 m H
  tabs : LamX.Tabs c.tb H
section
variable {c : GC} {m m' : List Addr} {st : Sto} {H H' : Hp} {a : Addr} {o : MO}
theorem RO.some (r : RO c m H a o) : ∃ u, H a = some u := by
  cases o with
  | lst xs => obtain ⟨vs, h, _⟩ := r; exact ⟨_, h⟩
  | frz xs => obtain ⟨u, vs, h, _⟩ := r; exact ⟨_, h⟩
  | ins k fs => obtain ⟨C, dx, gs, _, h, _⟩ := r; exact ⟨_, h⟩
  | dct => exact ⟨_, r⟩
theorem RO.mono (e : Ext c m H m' H') (r : RO c m H a o) (k : H' a = H a) : RO c m' H' a o := by
  cases o with
  | lst xs => obtain ⟨vs, h, q⟩ := r; exact ⟨vs, k.trans h, q.mono e⟩
  | frz xs => obtain ⟨u, vs, h, q⟩ := r; exact ⟨u, vs, k.trans h, q.mono e⟩
  | ins i fs => obtain ⟨C, dx, gs, h0, h, q⟩ := r; exact ⟨C, dx, gs, h0, k.trans h, RF.mono e q⟩
  | dct => exact k.trans r
theorem Rel.there (r : Rel c m st H) {i : Nat} (h : m[i]? = some a) : ∃ u, H a = some u := by
  have hi : i < st.length := by rw [← r.len]; exact (List.getElem?_eq_some_iff.mp h).1
  obtain ⟨b, hb, q⟩ := r.obj i st[i] (by simp [hi])
  rw [h] at hb
  cases hb
  exact q.some
theorem Rel.mem (r : Rel c m st H) (h : a ∈ m) : ∃ u, H a = some u := by
  obtain ⟨i, hi⟩ := List.mem_iff_getElem?.mp h
  exact r.there hi
theorem Ext.same (s : ∀ b o, H b = some o → H' b = some o) : Ext c m H m H' := by
  refine ⟨⟨[], by simp⟩, fun b xs h => ?_, fun _ h => .inl h, fun b o h _ _ => s b o h, fun b h => ?_⟩
  · rcases h with ⟨o, h, hd⟩ | h
    · exact .inl ⟨o, s _ _ h, hd⟩
    · exact .inr h
  · cases q : H b with
    | none => exact absurd q h
    | some o => rw [s b o q]; simp
theorem Ext.grow {p : Addr} (hp : H p = none) (s : ∀ b o, H b = some o → H' b = some o) : Ext c m H (m ++ [p]) H' := by
  have e : Ext c m H m H' := Ext.same s
  refine ⟨⟨[p], rfl⟩, e.tup, fun a h => ?_, e.frame, e.live⟩
  rcases List.mem_append.mp h with h | h
  · exact .inl h
  · rw [List.mem_singleton] at h
    exact .inr (by rw [h]; exact hp)
theorem Rel.same (r : Rel c m st H) (s : ∀ b o, H b = some o → H' b = some o) : Rel c m st H' := by
  refine ⟨r.len, r.nd, fun i o h => ?_, r.gr.trans (Ext.same s), r.tabs.ext s⟩
  obtain ⟨a, ha, q⟩ := r.obj i o h
  obtain ⟨u, hu⟩ := q.some
  exact ⟨a, ha, q.mono (Ext.same s) ((s _ _ hu).trans hu.symm)⟩
theorem upd_keeps {p : Addr} {u : HO} (hp : H p = none) : ∀ b o, H b = some o → upd H p u b = some o := fun b o h => by
  rw [upd_ne (ne_of_none h hp)]; exact h
theorem ext_new {p : Addr} {u : HO} (hp : H p = none) : Ext c m H m (upd H p u) := Ext.same (upd_keeps hp)
theorem Rel.grow (r : Rel c m st H) {p : Addr} (hp : H p = none) (s : ∀ b o, H b = some o → H' b = some o) (new : RO c (m ++ [p]) H' p o) : Rel c (m ++ [p]) (st ++ [o]) H' ∧ Ext c m H (m ++ [p]) H' := by
  have e : Ext c m H (m ++ [p]) H' := Ext.grow hp s
  refine ⟨⟨by simp [r.len], ?_, fun i o' h => ?_, r.gr.trans e, r.tabs.ext s⟩, e⟩
  · refine List.nodup_append.mpr ⟨r.nd, by simp, fun x hx y hy => ?_⟩
    obtain ⟨u, hu⟩ := r.mem hx
    simp only [List.mem_singleton] at hy
    subst hy
    rintro rfl
    rw [hp] at hu; cases hu
  · by_cases hi : i < st.length
    · rw [List.getElem?_append_left hi] at h
      obtain ⟨a, ha, q⟩ := r.obj i o' h
      obtain ⟨u, hu⟩ := q.some
      exact ⟨a, e.at ha, q.mono e ((s _ _ hu).trans hu.symm)⟩
    · have hl : i = st.length := by
        have := (List.getElem?_eq_some_iff.mp h).1
        simp at this; omega
      subst hl
      rw [List.getElem?_append_right (Nat.le_refl _)] at h
      simp at h
      subst h
      exact ⟨p, by rw [← r.len]; simp, new⟩
theorem Rel.write (r : Rel c m st H) {i : Nat} {u : HO} {o' : MO} (hi : m[i]? = some a) (hs : st[i]? = some o) (nt : ∀ xs, H a ≠ some (.tup xs)) (nf : ∀ ob xs, H a ≠ some (.frz ob (.tup xs)))
    (new : Ext c m H m (upd H a u) → RO c m (upd H a u) a o') : Rel c m (st.set i o') (upd H a u) ∧ Ext c m H m (upd H a u) := by
  have e : Ext c m H m (upd H a u) := by
    refine ⟨⟨[], by simp⟩, fun b xs h => ?_, fun _ h => .inl h, fun b ob h hm _ => ?_, fun b h => ?_⟩
    · rcases h with ⟨ob, h, hd⟩ | h
      · refine .inl ⟨ob, ?_, hd⟩
        rw [upd_ne (fun z => by rw [z] at h; exact nf _ _ h)]; exact h
      · exact .inr h
    · rw [upd_ne (fun z => hm (by rw [z]; exact List.mem_of_getElem? hi))]; exact h
    · by_cases z : b = a
      · rw [z, upd_same]; simp
      · rw [upd_ne z]; exact h
  refine ⟨⟨by simp [r.len], r.nd, fun j ob h => ?_, r.gr.trans e, fun p hp => ?_⟩, e⟩
  case refine_2 =>
    obtain ⟨ps, h1, h2, h3⟩ := r.tabs p hp
    obtain ⟨b, hb, q⟩ := r.obj i o hs
    rw [hi] at hb
    cases hb
    have na : ∀ d v, H d = some v → (∀ xs, v ≠ .lst xs) → (∀ ob xs, v ≠ .frz ob xs) → (∀ C dx gs, v ≠ .ins C dx gs) → (∀ zs, v ≠ .dK zs) → d ≠ a := fun d v hd k1 k2 k3 k4 z => by
      rw [z] at hd
      cases o with
      | lst xs => obtain ⟨vs, h, _⟩ := q; rw [h] at hd; cases hd; exact k1 _ rfl
      | frz xs => obtain ⟨ob, vs, h, _⟩ := q; rw [h] at hd; cases hd; exact k2 _ _ rfl
      | ins k fs => obtain ⟨C, dx, gs, _, h, _⟩ := q; rw [h] at hd; cases hd; exact k3 _ _ _ rfl
      | dct => have h : H a = some (.dK []) := q; rw [h] at hd; cases hd; exact k4 _ rfl
    refine ⟨ps, (upd_ne (na _ _ h1 (fun _ z => by cases z) (fun _ _ z => by cases z) (fun _ _ _ z => by cases z) fun _ z => by cases z)).trans h1, h2, fun pos cv hc => ?_⟩
    obtain ⟨d, e1, e2⟩ := h3 pos cv hc
    exact ⟨d, e1, (upd_ne (na _ _ e2 (fun _ z => by cases z) (fun _ _ z => by cases z) (fun _ _ _ z => by cases z) fun _ z => by cases z)).trans e2⟩
  by_cases hj : i = j
  · subst hj
    rw [List.getElem?_set_self (List.getElem?_eq_some_iff.mp hs).1] at h
    cases h
    exact ⟨a, hi, new e⟩
  · rw [List.getElem?_set_ne hj] at h
    obtain ⟨b, hb, q⟩ := r.obj j ob h
    refine ⟨b, hb, q.mono e (upd_ne ?_)⟩
    rintro rfl
    exact hj (by
      obtain ⟨h1, e1⟩ := List.getElem?_eq_some_iff.mp hi
      obtain ⟨h2, e2⟩ := List.getElem?_eq_some_iff.mp hb
      exact (List.getElem_inj r.nd).mp (e1.trans e2.symm))
theorem Rel.lst (r : Rel c m st H) {i : Nat} {xs : List MV} (hs : st[i]? = some (.lst xs)) (hi : m[i]? = some a) : ∃ vs, H a = some (.lst vs) ∧ RVs c m H xs vs := by
  obtain ⟨b, hb, q⟩ := r.obj i _ hs
  rw [hi] at hb; cases hb
  exact q
theorem Rel.frz (r : Rel c m st H) {i : Nat} {xs : List MV} (hs : st[i]? = some (.frz xs)) (hi : m[i]? = some a) : ∃ o vs, H a = some (.frz o (.lst vs)) ∧ RVs c m H xs vs := by
  obtain ⟨b, hb, q⟩ := r.obj i _ hs
  rw [hi] at hb; cases hb
  exact q
theorem Rel.ins (r : Rel c m st H) {i k : Nat} {fs : List (Str × MV)} (hs : st[i]? = some (.ins k fs)) (hi : m[i]? = some a) : ∃ C dx gs, c.ca k = some C ∧ H a = some (.ins C dx gs) ∧ RF c m H fs gs := by
  obtain ⟨b, hb, q⟩ := r.obj i _ hs
  rw [hi] at hb; cases hb
  exact q
theorem Rel.setLst (r : Rel c m st H) {i : Nat} {xs ys : List MV} {us : List V} (hs : st[i]? = some (.lst xs)) (hi : m[i]? = some a) (h : RVs c m H ys us) :
    Rel c m (st.set i (.lst ys)) (upd H a (.lst us)) ∧ Ext c m H m (upd H a (.lst us)) := by
  obtain ⟨vs, h1, _⟩ := r.lst hs hi
  exact r.write hi hs (fun _ z => by rw [h1] at z; cases z) (fun _ _ z => by rw [h1] at z; cases z) fun e => ⟨us, upd_same, h.mono e⟩
def listOf (st : Sto) (i : Nat) : Option (List MV) :=
  match st[i]? with
  | some (.lst xs) => some xs
  | some (.frz xs) => some xs
  | _ => none
theorem Rel.list (r : Rel c m st H) {i : Nat} {xs : List MV} (hs : listOf st i = some xs) (hi : m[i]? = some a) : ∃ vs, SqL c.K H a vs ∧ RVs c m H xs vs := by
  unfold listOf at hs
  split at hs
  · rename_i ys h; cases hs
    obtain ⟨vs, h1, q⟩ := r.lst h hi
    exact ⟨vs, .inl (.inl h1), q⟩
  · rename_i ys h; cases hs
    obtain ⟨o, vs, h1, q⟩ := r.frz h hi
    exact ⟨vs, .inl (.inr ⟨o, h1⟩), q⟩
  · cases hs
end
structure REnv (c : GC) (m : List Addr) (H : Hp) (ρ : MEnv) (σ : St) : Prop where
  len : ρ.length = σ.length
  at_ : ∀ (i : Nat) (x : MV), ρ[i]? = some (some x) → ∃ v, σ[i]? = some (some v) ∧ RV c m H x v
section
variable {c : GC} {m m' : List Addr} {H H' : Hp} {ρ : MEnv} {σ : St}
theorem REnv.mono (r : REnv c m H ρ σ) (e : Ext c m H m' H') : REnv c m' H' ρ σ := ⟨r.len, fun i x h => by
  obtain ⟨v, h1, h2⟩ := r.at_ i x h
  exact ⟨v, h1, h2.mono e⟩⟩
theorem REnv.set (r : REnv c m H ρ σ) {i : Nat} {x : MV} {v : V} (h : RV c m H x v) : REnv c m H (ρ.set i (some x)) (σ.set i (some v)) := by
  refine ⟨by simp [r.len], fun j y hj => ?_⟩
  by_cases e : i = j
  · subst e
    have hl : i < ρ.length := by have := (List.getElem?_eq_some_iff.mp hj).1; simpa using this
    rw [List.getElem?_set_self hl] at hj
    cases hj
    exact ⟨v, List.getElem?_set_self (by rw [← r.len]; exact hl), h⟩
  · rw [List.getElem?_set_ne e] at hj ⊢
    exact r.at_ j y hj
theorem REnv.unset (r : REnv c m H ρ σ) {i : Nat} : REnv c m H (ρ.set i none) (σ.set i none) := by
  refine ⟨by simp [r.len], fun j y hj => ?_⟩
  by_cases e : i = j
  · subst e
    have hl : i < ρ.length := by have := (List.getElem?_eq_some_iff.mp hj).1; simpa using this
    rw [List.getElem?_set_self hl] at hj
    cases hj
  · rw [List.getElem?_set_ne e] at hj ⊢
    exact r.at_ j y hj
end
end CS
namespace CS
open PySem PySem.Spec L2

abbrev DE := MEnv → Sto → R MV
abbrev DB := MEnv → Sto → R Bool
abbrev DA := MEnv → Sto → R (List MV)
inductive Fl where
  | nx | rt (v : MV) | bk | ct | exc (x : MX)
abbrev SR := Option (Fl × MEnv × Sto)
abbrev DS := MEnv → Sto → SR
abbrev Kn (α : Type) := α → Sto → List Addr → Hp → Prop

def RX (c : GC) (m : List Addr) (H : Hp) (x : MX) (cls : Value) (d : Option Addr) : Prop :=
  ∃ C, c.ca x.1 = some C ∧ cls = .ref C ∧ (x.2 = [] ∨ ∃ dd gs, d = some dd ∧ H dd = some (.xd gs) ∧ RF c m H x.2 gs)

def Run (c : GC) (W : WX) (σ : L2.St) (m : List Addr) (H : Hp) {α : Type} (r : R α) (K : Kn α) : Prop :=
  match r with
  | none => False
  | some (.ok a, st) => ∀ m' H', Ext c m H m' H' → Rel c m' st H' → K a st m' H'
  | some (.error x, st) => ∀ m' H' cls d, Ext c m H m' H' → Rel c m' st H' → RX c m' H' x cls d → W cls d σ H'
theorem Run.bnd {c : GC} {W : WX} {σ : L2.St} {m : List Addr} {H : Hp} {α β : Type} {r : R α} {f : α → Sto → R β} {K : Kn β} (h : Run c W σ m H (bnd r f) K) :
    Run c W σ m H r (fun a st m' H' => Run c W σ m' H' (f a st) K) := by
  cases r with
  | none => exact h
  | some p =>
    obtain ⟨e, st⟩ := p
    cases e with
    | error x => exact h
    | ok a =>
      intro m1 H1 e1 r1
      have h : Run c W σ m H (f a st) K := h
      show Run c W σ m1 H1 (f a st) K
      cases q : f a st with
      | none => rw [q] at h; exact h
      | some p =>
        obtain ⟨e2, st2⟩ := p
        rw [q] at h
        cases e2 with
        | error x => exact fun m2 H2 cls d e2 r2 x2 => h m2 H2 cls d (e1.trans e2) r2 x2
        | ok b => exact fun m2 H2 e2 r2 => h m2 H2 (e1.trans e2) r2
theorem Run.ok {c : GC} {W : WX} {σ : L2.St} {m m' : List Addr} {H H' : Hp} {α : Type} {a : α} {st : Sto} {K : Kn α} (h : Run c W σ m H (ret a st) K) (e : Ext c m H m' H') (r : Rel c m' st H') : K a st m' H' := h m' H' e r
theorem Run.imp {c : GC} {W : WX} {σ : L2.St} {m : List Addr} {H : Hp} {α : Type} {r : R α} {K K' : Kn α} (h : Run c W σ m H r K) (k : ∀ a st m' H', Rel c m' st H' → Ext c m H m' H' → K a st m' H' → K' a st m' H') : Run c W σ m H r K' := by
  cases r with
  | none => exact h
  | some p =>
    obtain ⟨e, st⟩ := p
    cases e with
    | error x => exact h
    | ok a => exact fun m1 H1 e1 r1 => k _ _ _ _ r1 e1 (h m1 H1 e1 r1)

structure AD where
  fa : Nat → Option Addr
  ca : Nat → Option Addr
  tb : List (Addr × Str)
  m0 : List Addr
  H0 : Hp
abbrev gcA (A : AD) (P : Program) (w : World) (K : PySem.W.Frag) (mg : Str → Option Value) (base : Heap) : GC := ⟨P, w, K, mg, base, A.fa, A.ca, A.tb, A.m0, A.H0⟩
abbrev gc (A : AD) (X : Cx) : GC := ⟨X.prog, X.w, X.K, X.mg, X.base, A.fa, A.ca, A.tb, A.m0, A.H0⟩

def kV (c : GC) (Q : VK) : Kn MV := fun v _ m' H' => ∀ u, RV c m' H' v u → Q u H'
def tM (c : GC) (W : WX) (f : DE) : TE := fun σ H Q => ∃ m ρ st, Rel c m st H ∧ REnv c m H ρ σ ∧ Run c W σ m H (f ρ st) (kV c Q)
def tMB (c : GC) (W : WX) (f : DB) : TT := fun σ H Q => ∃ m ρ st, Rel c m st H ∧ REnv c m H ρ σ ∧ Run c W σ m H (f ρ st) (fun b _ _ H' => Q b H')
def tMA (c : GC) (W : WX) (f : DA) : TA := fun σ H Q => ∃ m ρ st, Rel c m st H ∧ REnv c m H ρ σ ∧ Run c W σ m H (f ρ st) (fun xs _ m' H' => ∀ us, RVs c m' H' xs us → Q us H')
def SRun (c : GC) (W : WX) (D : Ends) (m : List Addr) (H : Hp) : SR → Prop
  | none => False
  | some (.nx, ρ, st) => ∀ m' H' σ', Ext c m H m' H' → Rel c m' st H' → REnv c m' H' ρ σ' → D.nx σ' H'
  | some (.rt v, _, st) => ∀ m' H' u, Ext c m H m' H' → Rel c m' st H' → RV c m' H' v u → D.rt u H'
  | some (.bk, ρ, st) => ∀ m' H' σ', Ext c m H m' H' → Rel c m' st H' → REnv c m' H' ρ σ' → D.bk σ' H'
  | some (.ct, ρ, st) => ∀ m' H' σ', Ext c m H m' H' → Rel c m' st H' → REnv c m' H' ρ σ' → D.ct σ' H'
  | some (.exc x, ρ, st) => ∀ m' H' σ' cls d, Ext c m H m' H' → Rel c m' st H' → REnv c m' H' ρ σ' → RX c m' H' x cls d → W cls d σ' H'
def tMS (c : GC) (W : WX) (f : DS) : TS := fun D σ H => ∃ m ρ st, Rel c m st H ∧ REnv c m H ρ σ ∧ SRun c W D m H (f ρ st)

abbrev PM (A : AD) (X : Cx) (W : WX) (e : Expr) (f : DE) : Prop := PE X e (tM (gc A X) W f)
abbrev PMT (A : AD) (X : Cx) (W : WX) (e : Expr) (f : DB) : Prop := PT X e (tMB (gc A X) W f)
abbrev PMA (A : AD) (X : Cx) (W : WX) (es : List Expr) (f : DA) : Prop := PA X es (tMA (gc A X) W f)
abbrev PMS (A : AD) (X : Cx) (W : WX) (s : Stmt) (f : DS) : Prop := PS X s (tMS (gc A X) W f)
abbrev PMSs (A : AD) (X : Cx) (W : WX) (s : List Stmt) (f : DS) : Prop := PSs X s (tMS (gc A X) W f)

theorem _root_.L2.PE.imp {X : Cx} {e : Expr} {t t' : TE} (h : PE X e t) (q : ∀ σ H Q, t' σ H Q → t σ H Q) : PE X e t' := ⟨fun pins s σ H Q I w => h.run pins s σ H Q I (q _ _ _ w)⟩
theorem _root_.L2.PT.imp {X : Cx} {e : Expr} {t t' : TT} (h : PT X e t) (q : ∀ σ H Q, t' σ H Q → t σ H Q) : PT X e t' := ⟨fun pins s σ H Q I w => h.run pins s σ H Q I (q _ _ _ w)⟩
theorem _root_.L2.PW.imp {X : Cx} {e : Expr} {t t' : TT} (h : PW X e t) (q : ∀ σ H Q, t' σ H Q → t σ H Q) : PW X e t' := ⟨fun wh pins s σ H Q I w => h.run wh pins s σ H Q I (q _ _ _ w)⟩
theorem _root_.L2.PA.imp {X : Cx} {e : List Expr} {t t' : TA} (h : PA X e t) (q : ∀ σ H Q, t' σ H Q → t σ H Q) : PA X e t' := ⟨fun pos pins s σ H Q I w => h.run pos pins s σ H Q I (q _ _ _ w)⟩
theorem _root_.L2.PS.imp {X : Cx} {e : Stmt} {t t' : TS} (h : PS X e t) (q : ∀ D σ H, t' D σ H → t D σ H) : PS X e t' := ⟨fun pins s σ H D I w => h.run pins s σ H D I (q _ _ _ w)⟩
theorem _root_.L2.PSs.imp {X : Cx} {e : List Stmt} {t t' : TS} (h : PSs X e t) (q : ∀ D σ H, t' D σ H → t D σ H) : PSs X e t' := ⟨fun pins s σ H D I w => h.run pins s σ H D I (q _ _ _ w)⟩

section
variable {A : AD} {X : Cx} {W : WX} {e a b : Expr} {f fa fb : DE} {σ : L2.St} {H : Hp} {m : List Addr} {ρ : MEnv} {st : Sto}
theorem tM.go {c : GC} {Q : VK} (r : Rel c m st H) (v : REnv c m H ρ σ) (k : Run c W σ m H (f ρ st) (kV c Q)) : tM c W f σ H Q := ⟨m, ρ, st, r, v, k⟩
theorem tM.then {c : GC} {g : MV → Sto → R MV} {K : Kn MV} {Q : VK} (r : Rel c m st H) (v : REnv c m H ρ σ) (k : Run c W σ m H (CS.bnd (f ρ st) g) K)
    (h : ∀ x u st' m' H', Rel c m' st' H' → Ext c m H m' H' → REnv c m' H' ρ σ → RV c m' H' x u → Run c W σ m' H' (g x st') K → Q u H') : tM c W f σ H Q :=
  ⟨m, ρ, st, r, v, k.bnd.imp fun x st' m' H' r' e' q u hu => h x u st' m' H' r' e' (v.mono e') hu q⟩
theorem tM.thenG {α : Type} {c : GC} {g : MV → Sto → R α} {K : Kn α} {Q : VK} (r : Rel c m st H) (v : REnv c m H ρ σ) (k : Run c W σ m H (CS.bnd (f ρ st) g) K)
    (h : ∀ x u st' m' H', Rel c m' st' H' → Ext c m H m' H' → REnv c m' H' ρ σ → RV c m' H' x u → Run c W σ m' H' (g x st') K → Q u H') : tM c W f σ H Q :=
  ⟨m, ρ, st, r, v, k.bnd.imp fun x st' m' H' r' e' q u hu => h x u st' m' H' r' e' (v.mono e') hu q⟩
theorem tMB.thenG {α : Type} {c : GC} {f : DB} {g : Bool → Sto → R α} {K : Kn α} {Q : Bool → Hp → Prop} (r : Rel c m st H) (v : REnv c m H ρ σ) (k : Run c W σ m H (CS.bnd (f ρ st) g) K)
    (h : ∀ x st' m' H', Rel c m' st' H' → Ext c m H m' H' → REnv c m' H' ρ σ → Run c W σ m' H' (g x st') K → Q x H') : tMB c W f σ H Q :=
  ⟨m, ρ, st, r, v, k.bnd.imp fun x st' m' H' r' e' q => h x st' m' H' r' e' (v.mono e') q⟩
theorem tMA.thenG {α : Type} {c : GC} {f : DA} {g : List MV → Sto → R α} {K : Kn α} {Q : List V → Hp → Prop} (r : Rel c m st H) (v : REnv c m H ρ σ) (k : Run c W σ m H (CS.bnd (f ρ st) g) K)
    (h : ∀ x u st' m' H', Rel c m' st' H' → Ext c m H m' H' → REnv c m' H' ρ σ → RVs c m' H' x u → Run c W σ m' H' (g x st') K → Q u H') : tMA c W f σ H Q :=
  ⟨m, ρ, st, r, v, k.bnd.imp fun x st' m' H' r' e' q u hu => h x u st' m' H' r' e' (v.mono e') hu q⟩

def eVar (i : Nat) : DE := fun ρ st => match ρ[i]? with | some (some v) => ret v st | _ => none
def eC (v : MV) : DE := fun _ st => ret v st
theorem pm_var {i : Nat} {x : Str} {pos : Pos} (hN : X.N[i]? = some x) (hv : Vis X.env.scope x) (hd : (x == ("__debug__" : Str)) = false) (hcd : (x == ("__classdict__" : Str)) = false) : PM A X W (.Name x pos) (eVar i) := by
  refine (pe_var hN hv hd hcd).imp fun σ H Q ⟨m, ρ, st, r, v, k⟩ => ?_
  unfold eVar at k
  split at k
  · rename_i y hy
    obtain ⟨u, hu, q⟩ := v.at_ i y hy
    exact ⟨u, hu, k.ok .refl r u q⟩
  · exact k.elim
theorem pm_const {v : MV} {u : V} (h : PE X e (tC u)) (q : ∀ m H, RV (gc A X) m H v u) : PM A X W e (eC v) :=
  h.imp fun σ H Q ⟨m, ρ, st, r, w, k⟩ => k.ok .refl r u (q m H)
def OpM (A : AD) (X : Cx) (W : WX) (f : Value → Value → Sem Value) (g : MV → MV → Sto → R MV) : Prop :=
  ∃ r : R2, OpR X f r ∧ ∀ (m : List Addr) (st : Sto) (σ : L2.St) (H : Hp) (x y : MV) (u v : V) (Q : VK), Rel (gc A X) m st H → RV (gc A X) m H x u → RV (gc A X) m H y v → Run (gc A X) W σ m H (g x y st) (kV (gc A X) Q) → r u v H Q
def eOp (g : MV → MV → Sto → R MV) (fa fb : DE) : DE := fun ρ st => bnd (fa ρ st) fun x st1 => bnd (fb ρ st1) fun y st2 => g x y st2
theorem tOp_of {c : GC} {r : R2} {g : MV → MV → Sto → R MV} (hr : ∀ (m : List Addr) (st : Sto) (σ : L2.St) (H : Hp) (x y : MV) (u v : V) (Q : VK), Rel c m st H → RV c m H x u → RV c m H y v → Run c W σ m H (g x y st) (kV c Q) → r u v H Q)
    {Q : VK} (h : tM c W (eOp g fa fb) σ H Q) : tOp r (tM c W fa) (tM c W fb) σ H Q := by
  obtain ⟨m, ρ, st, rr, v, k⟩ := h
  refine tM.then rr v k fun x u st1 m1 H1 r1 e1 v1 hu k1 => ?_
  refine tM.then r1 v1 k1 fun y w st2 m2 H2 r2 e2 v2 hw k2 => ?_
  exact hr m2 st2 σ H2 x y u w Q r2 (hu.mono e2) hw k2
theorem pm_bin {op : Operator} {g : MV → MV → Sto → R MV} {pos : Pos} (h : OpM A X W (binaryOp op) g) (ha : PM A X W a fa) (hb : PM A X W b fb) : PM A X W (.BinOp a op b pos) (eOp g fa fb) := by
  obtain ⟨r, ho, hr⟩ := h
  exact (pe_op ho ha hb).imp fun σ H Q q => tOp_of hr q
theorem pm_cmp {op : CmpOp} {g : MV → MV → Sto → R MV} {pos : Pos} (h : OpM A X W (compareOp op) g) (ha : PM A X W a fa) (hb : PM A X W b fb) (hm : behindInMarks op b = false) : PM A X W (.Compare a [op] [b] pos) (eOp g fa fb) := by
  obtain ⟨r, ho, hr⟩ := h
  exact (pe_cmpR ho ha hb hm).imp fun σ H Q q => tOp_of hr q
def asB (f : DE) : DB := fun ρ st => bnd (f ρ st) fun x st1 => match x with | .bl k => ret k st1 | _ => none
theorem tTest_of {c : GC} {t : TE} {Q : Bool → Hp → Prop} (ht : ∀ Q, tM c W f σ H Q → t σ H Q) (h : tMB c W (asB f) σ H Q) : tTest t σ H Q := by
  obtain ⟨m, ρ, st, r, v, k⟩ := h
  refine ht _ (tM.thenG r v k fun x u st1 m1 H1 r1 e1 v1 hu k1 => ?_)
  cases x with
  | bl k =>
    cases hu
    exact ⟨_, rfl, Run.ok k1 .refl r1⟩
  | _ => exact k1.elim
theorem pmt_cmp {op : CmpOp} {g : MV → MV → Sto → R MV} {pos : Pos} (h : OpM A X W (compareOp op) g) (ha : PM A X W a fa) (hb : PM A X W b fb) (hm : behindInMarks op b = false) : PMT A X W (.Compare a [op] [b] pos) (asB (eOp g fa fb)) := by
  obtain ⟨r, ho, hr⟩ := h
  exact (pt_cmpR ho ha hb hm).imp fun σ H Q q => tTest_of (fun Q q => tOp_of hr q) q
def eCh (g g' : MV → MV → Sto → R MV) (fa fb fc : DE) : DE := fun ρ st => bnd (fa ρ st) fun x st1 => bnd (fb ρ st1) fun y st2 => bnd (g x y st2) fun z st3 =>
  match z with
  | .bl true => bnd (fc ρ st3) fun w st4 => g' y w st4
  | .bl false => ret (.bl false) st3
  | _ => none
theorem tChain_of {c : GC} {r r' : R2} {g g' : MV → MV → Sto → R MV} {fc : DE} (hr : ∀ (m : List Addr) (st : Sto) (σ : L2.St) (H : Hp) (x y : MV) (u v : V) (Q : VK), Rel c m st H → RV c m H x u → RV c m H y v → Run c W σ m H (g x y st) (kV c Q) → r u v H Q)
    (hr' : ∀ (m : List Addr) (st : Sto) (σ : L2.St) (H : Hp) (x y : MV) (u v : V) (Q : VK), Rel c m st H → RV c m H x u → RV c m H y v → Run c W σ m H (g' x y st) (kV c Q) → r' u v H Q)
    {Q : VK} (h : tM c W (eCh g g' fa fb fc) σ H Q) : tChain r r' (tM c W fa) (tM c W fb) (tM c W fc) σ H Q := by
  obtain ⟨m, ρ, st, rr, v, k⟩ := h
  refine tM.then rr v k fun x u st1 m1 H1 r1 e1 v1 hu k1 => ?_
  refine tM.then r1 v1 k1 fun y w st2 m2 H2 r2 e2 v2 hw k2 => ?_
  refine hr m2 st2 σ H2 x y u w _ r2 (hu.mono e2) hw (k2.bnd.imp fun z st3 m3 H3 r3 e3 k3 uz hz => ?_)
  cases z with
  | bl kk =>
    cases hz
    refine ⟨kk, rfl, ?_⟩
    cases kk with
    | true =>
      rw [if_pos rfl]
      refine tM.then r3 (v2.mono e3) k3 fun w' u' st4 m4 H4 r4 e4 v4 hw' k4 => ?_
      exact hr' m4 st4 σ H4 y w' w u' Q r4 (hw.mono (e3.trans e4)) hw' k4
    | false =>
      rw [if_neg Bool.false_ne_true]
      exact Run.ok k3 .refl r3 _ (.bl false)
  | _ => exact k3.elim
theorem pm_chain {op op' : CmpOp} {g g' : MV → MV → Sto → R MV} {c : Expr} {fc : DE} {pos : Pos} (h : OpM A X W (compareOp op) g) (h' : OpM A X W (compareOp op') g') (ha : PM A X W a fa) (hb : PM A X W b fb) (hc : PM A X W c fc)
    (hm : lastMarks [op, op'] [b, c] = false) : PM A X W (.Compare a [op, op'] [b, c] pos) (eCh g g' fa fb fc) := by
  obtain ⟨r, ho, hr⟩ := h
  obtain ⟨r', ho', hr'⟩ := h'
  exact (pe_chain ho ho' ha hb hc hm).imp fun σ H Q q => tChain_of hr hr' q
theorem pmt_chain {op op' : CmpOp} {g g' : MV → MV → Sto → R MV} {c : Expr} {fc : DE} {pos : Pos} (h : OpM A X W (compareOp op) g) (h' : OpM A X W (compareOp op') g') (ha : PM A X W a fa) (hb : PM A X W b fb) (hc : PM A X W c fc)
    (hm : lastMarks [op, op'] [b, c] = false) : PMT A X W (.Compare a [op, op'] [b, c] pos) (asB (eCh g g' fa fb fc)) := by
  obtain ⟨r, ho, hr⟩ := h
  obtain ⟨r', ho', hr'⟩ := h'
  exact (pt_chain ho ho' ha hb hc hm).imp fun σ H Q q => tTest_of (fun Q q => tChain_of hr hr' q) q
def UnM (A : AD) (X : Cx) (W : WX) (f : Value → Sem Value) (g : MV → Sto → R MV) : Prop :=
  ∃ r : V → Hp → VK → Prop, UnR X f r ∧ ∀ (m : List Addr) (st : Sto) (σ : L2.St) (H : Hp) (x : MV) (u : V) (Q : VK), Rel (gc A X) m st H → RV (gc A X) m H x u → Run (gc A X) W σ m H (g x st) (kV (gc A X) Q) → r u H Q
def eUn (g : MV → Sto → R MV) (fa : DE) : DE := fun ρ st => bnd (fa ρ st) fun x st1 => g x st1
theorem pm_un {op : UnaryOp} {g : MV → Sto → R MV} {pos : Pos} (h : UnM A X W (unaryOp op) g) (ha : PM A X W a fa) : PM A X W (.UnaryOp op a pos) (eUn g fa) := by
  obtain ⟨r, ho, hr⟩ := h
  refine (pe_un ho ha).imp fun σ H Q ⟨m, ρ, st, rr, v, k⟩ => ?_
  exact tM.then rr v k fun x u st1 m1 H1 r1 e1 v1 hu k1 => hr m1 st1 σ H1 x u Q r1 hu k1

def truM (x : MV) (st : Sto) : Option Bool :=
  match x with
  | .non => some false
  | .bl k => some k
  | .int i => some (i != 0)
  | .str y => if y.length ≤ sizeLine then some ((y.length : Int) != 0) else none
  | .tup xs => some (!xs.isEmpty)
  | .ref i => (listOf st i).map fun xs => !xs.isEmpty
  | _ => none
theorem isEmpty_rvs {c : GC} {xs : List MV} {vs : List V} (r : RVs c m H xs vs) : (!vs.isEmpty) = !xs.isEmpty := by
  cases r <;> rfl
theorem truM_ok {c : GC} {x : MV} {u : V} {k : Bool} (r : Rel c m st H) (h : RV c m H x u) (e : truM x st = some k) : TruV c.K u H k := by
  cases h with
  | non => exact (Option.some.inj e).symm
  | bl b => exact (Option.some.inj e).symm
  | int i => exact (Option.some.inj e).symm
  | str y =>
    unfold truM at e
    simp only at e
    split at e
    · rename_i hl
      exact ⟨hl, (Option.some.inj e).symm⟩
    · cases e
  | @tup a xs vs hs hv => exact .inr (.inl ⟨vs, hs.toT, by rw [isEmpty_rvs hv]; exact (Option.some.inj e).symm⟩)
  | @ref i a hi =>
    unfold truM at e
    simp only at e
    cases q : listOf st i with
    | none => rw [q] at e; cases e
    | some xs =>
      rw [q] at e
      obtain ⟨vs, h1, h2⟩ := r.list q hi
      exact .inl ⟨vs, h1, by rw [isEmpty_rvs h2]; exact (Option.some.inj e).symm⟩
  | fn => cases e
  | cl => cases e
  | ty => cases e
def bTru (f : DE) : DB := fun ρ st => bnd (f ρ st) fun x st1 => match truM x st1 with | some k => ret k st1 | none => none
theorem tru_of {c : GC} {Q : Bool → Hp → Prop} (h : tMB c W (bTru f) σ H Q) : tM c W f σ H (fun x H' => ∃ k, TruV c.K x H' k ∧ Q k H') := by
  obtain ⟨m, ρ, st, r, v, k⟩ := h
  refine tM.thenG r v k fun x u st1 m1 H1 r1 e1 v1 hu k1 => ?_
  cases q : truM x st1 with
  | none => simp only [q] at k1; exact k1.elim
  | some kk =>
    simp only [q] at k1
    exact ⟨kk, truM_ok r1 hu q, Run.ok k1 .refl r1⟩
theorem pmt_truth (ha : PM A X W e f) (he : ∀ whole, isTrue e X.env whole = (do let v ← whole; standAt e.pos; holding [v] (truthy v))) : PMT A X W e (bTru f) :=
  (pt_truth ha he).imp fun σ H Q q => tru_of q
end
section
variable {A : AD} {X : Cx} {W : WX} {a b : Expr} {rest : List Expr} {p q : DB} {fa fb : DE} {pos : Pos} {σ : L2.St} {H : Hp}
abbrev PMW (A : AD) (X : Cx) (W : WX) (e : Expr) (f : DB) : Prop := PW X e (tMB (gc A X) W f)
def bAnd (p q : DB) : DB := fun ρ st => bnd (p ρ st) fun k st1 => if k then q ρ st1 else ret false st1
def bOr (p q : DB) : DB := fun ρ st => bnd (p ρ st) fun k st1 => if k then ret true st1 else q ρ st1
def bNot (p : DB) : DB := fun ρ st => bnd (p ρ st) fun k st1 => ret (!k) st1
theorem pmw_and1 (ha : PMT A X W a p) : PMW A X W (.BoolOp .And [a] pos) p := pw_and1 ha
theorem pmw_or1 (ha : PMT A X W a p) : PMW A X W (.BoolOp .Or [a] pos) p := pw_or1 ha
theorem pmw_and (ha : PMT A X W a p) (hb : PMW A X W (.BoolOp .And (b :: rest) pos) q) : PMW A X W (.BoolOp .And (a :: b :: rest) pos) (bAnd p q) := by
  refine (pw_and ha hb).imp fun σ H Q ⟨m, ρ, st, r, v, k⟩ => ?_
  refine tMB.thenG r v k fun x st1 m1 H1 r1 e1 v1 k1 => ?_
  cases x with
  | true => rw [if_pos rfl]; exact ⟨m1, ρ, st1, r1, v1, k1⟩
  | false => rw [if_neg Bool.false_ne_true]; exact Run.ok k1 .refl r1
theorem pmw_or (ha : PMT A X W a p) (hb : PMW A X W (.BoolOp .Or (b :: rest) pos) q) : PMW A X W (.BoolOp .Or (a :: b :: rest) pos) (bOr p q) := by
  refine (pw_or ha hb).imp fun σ H Q ⟨m, ρ, st, r, v, k⟩ => ?_
  refine tMB.thenG r v k fun x st1 m1 H1 r1 e1 v1 k1 => ?_
  cases x with
  | true => rw [if_pos rfl]; exact Run.ok k1 .refl r1
  | false => rw [if_neg Bool.false_ne_true]; exact ⟨m1, ρ, st1, r1, v1, k1⟩
theorem pmt_not (ha : PMT A X W a p) : PMT A X W (.UnaryOp .Not a pos) (bNot p) := by
  refine (pt_not ha).imp fun σ H Q ⟨m, ρ, st, r, v, k⟩ => ?_
  exact tMB.thenG r v k fun x st1 m1 H1 r1 e1 v1 k1 => Run.ok k1 .refl r1
def eAnd (fa fb : DE) : DE := fun ρ st => bnd (fa ρ st) fun x st1 => match truM x st1 with | some true => fb ρ st1 | some false => ret x st1 | none => none
def eOr (fa fb : DE) : DE := fun ρ st => bnd (fa ρ st) fun x st1 => match truM x st1 with | some true => ret x st1 | some false => fb ρ st1 | none => none
def eNot (fa : DE) : DE := fun ρ st => bnd (fa ρ st) fun x st1 => match truM x st1 with | some k => ret (.bl (!k)) st1 | none => none
def eIf (p : DB) (fa fb : DE) : DE := fun ρ st => bnd (p ρ st) fun k st1 => if k then fa ρ st1 else fb ρ st1
theorem pm_one {op : BoolOp} (ha : PM A X W a fa) : PM A X W (.BoolOp op [a] pos) fa := pe_one ha
theorem pm_and (ha : PM A X W a fa) (hb : PM A X W (.BoolOp .And (b :: rest) pos) fb) : PM A X W (.BoolOp .And (a :: b :: rest) pos) (eAnd fa fb) := by
  refine (pe_andT ha hb).imp fun σ H Q ⟨m, ρ, st, r, v, k⟩ => ?_
  refine tM.then r v k fun x u st1 m1 H1 r1 e1 v1 hu k1 => ?_
  cases q : truM x st1 with
  | none => simp only [q] at k1; exact k1.elim
  | some kk =>
    simp only [q] at k1
    refine ⟨kk, truM_ok r1 hu q, ?_⟩
    cases kk with
    | true => rw [if_pos rfl]; exact ⟨m1, ρ, st1, r1, v1, k1⟩
    | false => rw [if_neg Bool.false_ne_true]; exact Run.ok k1 .refl r1 u hu
theorem pm_or (ha : PM A X W a fa) (hb : PM A X W (.BoolOp .Or (b :: rest) pos) fb) : PM A X W (.BoolOp .Or (a :: b :: rest) pos) (eOr fa fb) := by
  refine (pe_orT ha hb).imp fun σ H Q ⟨m, ρ, st, r, v, k⟩ => ?_
  refine tM.then r v k fun x u st1 m1 H1 r1 e1 v1 hu k1 => ?_
  cases q : truM x st1 with
  | none => simp only [q] at k1; exact k1.elim
  | some kk =>
    simp only [q] at k1
    refine ⟨kk, truM_ok r1 hu q, ?_⟩
    cases kk with
    | true => rw [if_pos rfl]; exact Run.ok k1 .refl r1 u hu
    | false => rw [if_neg Bool.false_ne_true]; exact ⟨m1, ρ, st1, r1, v1, k1⟩
theorem pm_not (ha : PM A X W a fa) : PM A X W (.UnaryOp .Not a pos) (eNot fa) := by
  refine (pe_notT ha).imp fun σ H Q ⟨m, ρ, st, r, v, k⟩ => ?_
  refine tM.then r v k fun x u st1 m1 H1 r1 e1 v1 hu k1 => ?_
  cases q : truM x st1 with
  | none => simp only [q] at k1; exact k1.elim
  | some kk =>
    simp only [q] at k1
    exact ⟨kk, truM_ok r1 hu q, Run.ok k1 .refl r1 _ (.bl _)⟩
theorem pm_if {t : Expr} (hc : PMT A X W t p) (ha : PM A X W a fa) (hb : PM A X W b fb) : PM A X W (.IfExp t a b pos) (eIf p fa fb) := by
  refine (pe_ifExp hc ha hb).imp fun σ H Q ⟨m, ρ, st, r, v, k⟩ => ?_
  refine tMB.thenG r v k fun x st1 m1 H1 r1 e1 v1 k1 => ?_
  cases x with
  | true => rw [if_pos rfl]; exact ⟨m1, ρ, st1, r1, v1, k1⟩
  | false => rw [if_neg Bool.false_ne_true]; exact ⟨m1, ρ, st1, r1, v1, k1⟩
def aNil : DA := fun _ st => ret [] st
def aCons (fa : DE) (g : DA) : DA := fun ρ st => bnd (fa ρ st) fun x st1 => bnd (g ρ st1) fun xs st2 => ret (x :: xs) st2
theorem pma_nil : PMA A X W [] aNil := pa_nil.imp fun σ H Q ⟨m, ρ, st, r, v, k⟩ => Run.ok k .refl r _ .nil
theorem pma_cons {e : Expr} {es : List Expr} {g : DA} (ha : PM A X W e fa) (hr : PMA A X W es g) (hs : starEach (e :: es) X.env = (false, eval e X.env) :: starEach es X.env) : PMA A X W (e :: es) (aCons fa g) := by
  refine (pa_cons ha hr hs).imp fun σ H Q ⟨m, ρ, st, r, v, k⟩ => ?_
  refine tM.thenG r v k fun x u st1 m1 H1 r1 e1 v1 hu k1 => ?_
  refine tMA.thenG r1 v1 k1 fun xs us st2 m2 H2 r2 e2 v2 hus k2 => ?_
  exact Run.ok k2 .refl r2 _ (.cons (hu.mono e2) hus)
def eTup (g : DA) : DE := fun ρ st => bnd (g ρ st) fun xs st1 => if xs.length ≤ sizeLine then ret (.tup xs) st1 else none
def eLst (g : DA) : DE := fun ρ st => bnd (g ρ st) fun xs st1 => if xs.length ≤ sizeLine then ret (.ref st1.length) (st1 ++ [.lst xs]) else none
theorem new_tup {c : GC} {m : List Addr} {st : Sto} {xs : List MV} {us : List V} {Q : VK} (r : Rel c m st H) (h : RVs c m H xs us) (k : Run c W σ m H (ret (MV.tup xs) st) (kV c Q)) : NewT H Q us := fun p ob hp hd =>
  k m (upd H p (.frz ob (.tup us))) (ext_new hp) (r.same (upd_keeps hp)) _ (.tup (.inl ⟨ob, upd_same, hd⟩) (h.mono (ext_new hp)))
theorem new_lst {c : GC} {m : List Addr} {st : Sto} {xs : List MV} {us : List V} {Q : VK} (r : Rel c m st H) (h : RVs c m H xs us) (k : Run c W σ m H (ret (MV.ref st.length) (st ++ [.lst xs])) (kV c Q)) : ∀ p, H p = none → Q (.ref p) (upd H p (.lst us)) := fun p hp => by
  have e0 : Ext c m H (m ++ [p]) (upd H p (.lst us)) := Ext.grow hp (upd_keeps hp)
  obtain ⟨r1, e1⟩ := r.grow (o := .lst xs) hp (upd_keeps (u := .lst us) hp) ⟨us, upd_same, h.mono e0⟩
  exact k _ _ e1 r1 _ (.ref (by rw [← r.len]; simp))
theorem pm_tup {es : List Expr} {g : DA} {k : Nat} (h : PMA A X W es g) : PM A X W (.Tuple es k pos) (eTup g) := by
  refine (pe_tupZ h).imp fun σ H Q ⟨m, ρ, st, r, v, k⟩ => ?_
  refine tMA.thenG r v k fun xs us st1 m1 H1 r1 e1 v1 hus k1 => ?_
  by_cases hl : xs.length ≤ sizeLine
  · rw [if_pos hl] at k1
    exact ⟨by rw [← hus.length]; exact hl, new_tup r1 hus k1⟩
  · rw [if_neg hl] at k1; exact k1.elim
theorem pm_lst {es : List Expr} {g : DA} (h : PMA A X W es g) : PM A X W (.List es pos) (eLst g) := by
  refine (pe_lst h).imp fun σ H Q ⟨m, ρ, st, r, v, k⟩ => ?_
  refine tMA.thenG r v k fun xs us st1 m1 H1 r1 e1 v1 hus k1 => ?_
  by_cases hl : xs.length ≤ sizeLine
  · rw [if_pos hl] at k1
    exact ⟨by rw [← hus.length]; exact hl, new_lst r1 hus k1⟩
  · rw [if_neg hl] at k1; exact k1.elim
end
end CS
namespace CS
open PySem PySem.Spec L2
abbrev R2Ok (c : GC) (W : WX) (g : MV → MV → Sto → R MV) (r : R2) : Prop :=
  ∀ (m : List Addr) (st : Sto) (σ : L2.St) (H : Hp) (x y : MV) (u v : V) (Q : VK), Rel c m st H → RV c m H x u → RV c m H y v → Run c W σ m H (g x y st) (kV c Q) → r u v H Q

def addM (x y : MV) (st : Sto) : R MV :=
  match x, y with
  | .int i, .int j => ret (.int (i + j)) st
  | .str a, .str b => if a.length + b.length ≤ sizeLine then ret (.str (a ++ b)) st else none
  | .tup xs, .tup ys => if xs.length + ys.length ≤ sizeLine then ret (.tup (xs ++ ys)) st else none
  | .ref i, .ref j => match st[i]?, st[j]? with
    | some (.lst xs), some (.lst ys) => if xs.length + ys.length ≤ sizeLine then ret (.ref st.length) (st ++ [.lst (xs ++ ys)]) else none
    | _, _ => none
  | _, _ => none
def subM (x y : MV) (st : Sto) : R MV :=
  match x, y with
  | .int i, .int j => ret (.int (i - j)) st
  | _, _ => none
def mulM (x y : MV) (st : Sto) : R MV :=
  match x, y with
  | .int i, .int j => if i.natAbs < 2 ^ 64 ∨ j.natAbs < 2 ^ 64 ∨ i.natAbs.log2 + j.natAbs.log2 < 1000000 then ret (.int (i * j)) st else none
  | .tup xs, .int k => if -1000 ≤ k ∧ k ≤ 1000 ∧ xs.length ≤ 1000 then ret (.tup (List.replicate k.toNat xs).flatten) st else none
  | .ref i, .int k => match st[i]? with
    | some (.lst xs) => if -(2 ^ 63) ≤ k ∧ k < 2 ^ 63 ∧ xs.length * k.toNat ≤ sizeLine then ret (.ref st.length) (st ++ [.lst (List.replicate k.toNat xs).flatten]) else none
    | _ => none
  | _, _ => none
def divM (x y : MV) (st : Sto) : R MV :=
  match x, y with
  | .int i, .int j => if 0 < j ∧ j.natAbs.log2 < 9000 then ret (.int (i / j)) st else none
  | _, _ => none
def modM (x y : MV) (st : Sto) : R MV :=
  match x, y with
  | .int i, .int j => if 0 < j then ret (.int (i % j)) st else none
  | _, _ => none
def powM (x y : MV) (st : Sto) : R MV :=
  match x, y with
  | .int i, .int j => if 0 ≤ j ∧ j ≤ 1000000 ∧ i.natAbs < 2 ^ 64 then ret (.int (i ^ j.toNat)) st else none
  | _, _ => none
def negM (x : MV) (st : Sto) : R MV :=
  match x with
  | .int i => ret (.int (-i)) st
  | _ => none
def intCmp (p : Int → Int → Bool) (x y : MV) (st : Sto) : R MV :=
  match x, y with
  | .int i, .int j => ret (.bl (p i j)) st
  | _, _ => none
section
variable {A : AD} {X : Cx} {W : WX}
theorem op_addM : OpM A X W (binaryOp .Add) addM := by
  refine ⟨_, op_add.or (op_add_str.or (catZ.or op_cat)), fun m st σ H x y u v Q r hx hy k => ?_⟩
  unfold addM at k
  split at k
  · cases hx; cases hy
    exact .inl ⟨_, _, rfl, rfl, k.ok .refl r _ (.int _)⟩
  · cases hx; cases hy
    split at k
    · rename_i hl
      exact .inr (.inl ⟨_, _, rfl, rfl, hl, k.ok .refl r _ (.str _)⟩)
    · exact k.elim
  · cases hx with
    | @tup a xs vs hs hv =>
    cases hy with
    | @tup b ys us ht hu =>
    split at k
    · rename_i hl
      refine .inr (.inr (.inl ⟨a, b, vs, us, rfl, rfl, hs.toT, ht.toT, by rw [← hv.length, ← hu.length]; exact hl, fun e => ?_, fun n e => ?_, ?_⟩))
      · subst e
        cases hv
        exact k.ok .refl r _ (.tup ht hu)
      · subst e
        cases hu
        rw [List.append_nil] at k
        exact k.ok .refl r _ (.tup hs hv)
      · exact new_tup r (hv.append hu) k
    · exact k.elim
  · cases hx with
    | @ref i a hi =>
    cases hy with
    | @ref j b hj =>
    split at k
    · rename_i xs ys e1 e2
      split at k
      · rename_i hl
        obtain ⟨vs, h1, hv⟩ := r.lst e1 hi
        obtain ⟨us, h2, hu⟩ := r.lst e2 hj
        exact .inr (.inr (.inr ⟨a, b, vs, us, rfl, rfl, h1, h2, by rw [← hv.length, ← hu.length]; exact hl, new_lst r (hv.append hu) k⟩))
      · exact k.elim
    · exact k.elim
  · exact k.elim
theorem op_subM : OpM A X W (binaryOp .Sub) subM := by
  refine ⟨_, op_sub, fun m st σ H x y u v Q r hx hy k => ?_⟩
  unfold subM at k
  split at k
  · cases hx; cases hy
    exact ⟨_, _, rfl, rfl, k.ok .refl r _ (.int _)⟩
  · exact k.elim
theorem op_mulM : OpM A X W (binaryOp .Mult) mulM := by
  refine ⟨_, (op_mulW.or op_mul).or (repZ.or op_rep), fun m st σ H x y u v Q r hx hy k => ?_⟩
  unfold mulM at k
  split at k
  · cases hx; cases hy
    split at k
    · rename_i hl
      have q := k.ok .refl r _ (.int _)
      rcases hl with h1 | h2 | hl
      · exact .inl (.inr ⟨_, _, rfl, rfl, .inl (by omega), q⟩)
      · exact .inl (.inr ⟨_, _, rfl, rfl, .inr (by omega), q⟩)
      · exact .inl (.inl ⟨_, _, rfl, rfl, hl, q⟩)
    · exact k.elim
  · rename_i ys kk
    cases hy
    cases hx with
    | @tup a xs vs hs hv =>
    split at k
    · rename_i hl
      obtain ⟨h1, h2, h4⟩ := hl
      refine .inr (.inl ⟨a, _, vs, rfl, rfl, hs.toT, h1, h2, by rw [← hv.length]; exact h4, fun z => ?_, fun _ _ => new_tup r (hv.rep _) k⟩)
      have e : (List.replicate kk.toNat ys).flatten = ys := by
        rcases z with z | z
        · rw [z] at hv
          cases hv
          simp
        · rw [z]; simp
      rw [e] at k
      exact k.ok .refl r _ (.tup hs hv)
    · exact k.elim
  · cases hy
    cases hx with
    | @ref i a hi =>
    split at k
    · rename_i xs e1
      split at k
      · rename_i hl
        obtain ⟨vs, h1, hv⟩ := r.lst e1 hi
        exact .inr (.inr ⟨a, _, vs, rfl, rfl, h1, hl.1, hl.2.1, by rw [← hv.length]; exact hl.2.2, new_lst r (hv.rep _) k⟩)
      · exact k.elim
    · exact k.elim
  · exact k.elim
theorem op_divM : OpM A X W (binaryOp .FloorDiv) divM := by
  refine ⟨_, op_fdivW, fun m st σ H x y u v Q r hx hy k => ?_⟩
  unfold divM at k
  split at k
  · cases hx; cases hy
    split at k
    · rename_i hl
      exact ⟨_, _, rfl, rfl, hl, k.ok .refl r _ (.int _)⟩
    · exact k.elim
  · exact k.elim
theorem op_modM : OpM A X W (binaryOp .Mod) modM := by
  refine ⟨_, op_mod, fun m st σ H x y u v Q r hx hy k => ?_⟩
  unfold modM at k
  split at k
  · cases hx; cases hy
    split at k
    · rename_i hl
      exact ⟨_, _, rfl, rfl, hl, k.ok .refl r _ (.int _)⟩
    · exact k.elim
  · exact k.elim
theorem op_powM : OpM A X W (binaryOp .Pow) powM := by
  refine ⟨_, op_pow, fun m st σ H x y u v Q r hx hy k => ?_⟩
  unfold powM at k
  split at k
  · cases hx; cases hy
    split at k
    · rename_i hl
      exact ⟨_, _, rfl, rfl, hl, k.ok .refl r _ (.int _)⟩
    · exact k.elim
  · exact k.elim
theorem un_negM : UnM A X W (unaryOp .USub) negM := by
  refine ⟨_, un_neg, fun m st σ H x u Q r hx k => ?_⟩
  unfold negM at k
  split at k
  · cases hx
    exact ⟨_, rfl, k.ok .refl r _ (.int _)⟩
  · exact k.elim
theorem intCmp_ok {f : Value → Value → Sem Value} {p : Int → Int → Bool} (h : OpR X f (rI0 fun i j => .bl (p i j))) : OpM A X W f (intCmp p) := by
  refine ⟨_, h, fun m st σ H x y u v Q r hx hy k => ?_⟩
  unfold intCmp at k
  split at k
  · cases hx; cases hy
    exact ⟨_, _, rfl, rfl, k.ok .refl r _ (.bl _)⟩
  · exact k.elim
abbrev ltM := intCmp fun i j => decide (i < j)
abbrev leM := intCmp fun i j => decide (i ≤ j)
abbrev gtM := intCmp fun i j => decide (j < i)
abbrev geM := intCmp fun i j => decide (j ≤ i)
theorem op_ltM : OpM A X W (compareOp .Lt) ltM := intCmp_ok op_lt
theorem op_leM : OpM A X W (compareOp .LtE) leM := intCmp_ok op_le
theorem op_gtM : OpM A X W (compareOp .Gt) gtM := intCmp_ok op_gt
theorem op_geM : OpM A X W (compareOp .GtE) geM := intCmp_ok op_ge
def isNon : MV → Bool
  | .non => true
  | _ => false
def isNonM (neg : Bool) (x y : MV) (st : Sto) : R MV :=
  match y with
  | .non => ret (.bl (neg != isNon x)) st
  | _ => none
theorem rv_non {c : GC} {m : List Addr} {H : Hp} {x : MV} {u : V} (h : RV c m H x u) : decide (u = .non) = isNon x := by
  cases h <;> rfl
theorem op_isM : OpM A X W (compareOp .Is) (isNonM false) := by
  refine ⟨_, op_isN, fun m st σ H x y u v Q r hx hy k => ?_⟩
  unfold isNonM at k
  split at k
  · cases hy
    refine ⟨rfl, ?_⟩
    rw [rv_non hx]
    have := k.ok .refl r _ (.bl _)
    simpa using this
  · exact k.elim
theorem op_isnotM : OpM A X W (compareOp .IsNot) (isNonM true) := by
  refine ⟨_, op_notN, fun m st σ H x y u v Q r hx hy k => ?_⟩
  unfold isNonM at k
  split at k
  · cases hy
    refine ⟨rfl, ?_⟩
    rw [rv_non hx]
    have := k.ok .refl r _ (.bl _)
    simpa using this
  · exact k.elim
end
mutual
def dataM (st : Sto) : Nat → MV → Option PyData
  | _, .non => some .none
  | _, .bl b => some (.bool b)
  | _, .int i => some (.int i)
  | _, .str x => some (.str x)
  | n + 1, .tup xs => (dataMs st n xs).map .tuple
  | n + 1, .ref i => match listOf st i with
    | some xs => (dataMs st n xs).map .list
    | none => none
  | _, _ => none
def dataMs (st : Sto) : Nat → List MV → Option (List PyData)
  | _, [] => some []
  | 0, _ => none
  | n + 1, x :: xs => match dataM st n x, dataMs st (n + 1) xs with
    | some d, some ds => some (d :: ds)
    | _, _ => none
end
theorem dp_of {c : GC} {m : List Addr} {st : Sto} {H : Hp} (r : Rel c m st H) : ∀ n : Nat,
    (∀ (x : MV) (u : V) (d : PyData), RV c m H x u → dataM st n x = some d → Dp c.K H u d) ∧ (∀ (xs : List MV) (us : List V) (ds : List PyData), RVs c m H xs us → dataMs st n xs = some ds → DpAll c.K H us ds) := by
  intro n
  induction n using Nat.strongRecOn with
  | _ n ih =>
    have one : ∀ (x : MV) (u : V) (d : PyData), RV c m H x u → dataM st n x = some d → Dp c.K H u d := by
      intro x u d h e
      cases h with
      | non => cases n <;> (simp only [dataM] at e; cases e; exact .non)
      | bl b => cases n <;> (simp only [dataM] at e; cases e; exact .bl _)
      | int i => cases n <;> (simp only [dataM] at e; cases e; exact .int _)
      | str y => cases n <;> (simp only [dataM] at e; cases e; exact .str _)
      | @tup a xs vs hs hv =>
        cases n with
        | zero => simp only [dataM] at e; cases e
        | succ n =>
          simp only [dataM] at e
          cases q : dataMs st n xs with
          | none => rw [q] at e; cases e
          | some ds =>
            rw [q] at e
            cases e
            exact .tup hs.toT ((ih n (Nat.lt_succ_self n)).2 xs vs ds hv q)
      | @ref i a hi =>
        cases n with
        | zero => simp only [dataM] at e; cases e
        | succ n =>
          simp only [dataM] at e
          cases q : listOf st i with
          | none => rw [q] at e; cases e
          | some xs =>
            rw [q] at e
            simp only at e
            obtain ⟨vs, hs, hv⟩ := r.list q hi
            cases q2 : dataMs st n xs with
            | none => rw [q2] at e; cases e
            | some ds =>
              rw [q2] at e
              cases e
              exact .lst hs ((ih n (Nat.lt_succ_self n)).2 xs vs ds hv q2)
      | fn => cases n <;> (simp only [dataM] at e; cases e)
      | cl => cases n <;> (simp only [dataM] at e; cases e)
      | ty => cases n <;> (simp only [dataM] at e; cases e)
    refine ⟨one, ?_⟩
    intro xs
    induction xs with
    | nil =>
      intro us ds h e
      cases h
      cases n <;> (simp only [dataMs] at e; cases e; exact .nil)
    | cons x xs ihx =>
      intro us ds h e
      cases h with
      | cons h1 h2 =>
      cases n with
      | zero => simp only [dataMs] at e; cases e
      | succ n =>
        simp only [dataMs] at e
        cases q : dataM st n x with
        | none => rw [q] at e; cases e
        | some d =>
          rw [q] at e
          cases q2 : dataMs st (n + 1) xs with
          | none => rw [q2] at e; cases e
          | some ds' =>
            rw [q2] at e
            cases e
            exact .cons ((ih n (Nat.lt_succ_self n)).1 x _ d h1 q) (ihx _ _ h2 q2)
def eqD (x y : MV) (st : Sto) : Option Bool :=
  match x, y with
  | .int i, .int j => some (decide (i = j))
  | .str a, .str b => some (decide (a = b))
  | .bl a, .bl b => some (decide (a = b))
  | .non, .non => some true
  | .non, .int _ => some false
  | .int _, .non => some false
  | x, y => match dataM st 30 x, dataM st 30 y with
    | some d, some e => if SeqAt.shaped d && SeqAt.shaped e then some (PyData.eqv d e) else none
    | _, _ => none
def eqM (x y : MV) (st : Sto) : R MV := match eqD x y st with | some k => ret (.bl k) st | none => none
def neM (x y : MV) (st : Sto) : R MV := match eqD x y st with | some k => ret (.bl (!k)) st | none => none
section
variable {A : AD} {X : Cx} {W : WX}
theorem eqD_ok {c : GC} {m : List Addr} {st : Sto} {H : Hp} {x y : MV} {u v : V} {k : Bool} (r : Rel c m st H) (hx : RV c m H x u) (hy : RV c m H y v) (e : eqD x y st = some k) :
    (scal u v = true ∧ decide (u = v) = k) ∨ ∃ d e, Dp c.K H u d ∧ Dp c.K H v e ∧ SeqAt.shaped d = true ∧ SeqAt.shaped e = true ∧ PyData.eqv d e = k := by
  unfold eqD at e
  split at e
  · cases hx; cases hy; cases e
    exact .inl ⟨rfl, by rw [dec_int]; exact Bool.beq_eq_decide_eq _ _⟩
  · cases hx; cases hy; cases e
    exact .inl ⟨rfl, by rw [dec_str]; exact Bool.beq_eq_decide_eq _ _⟩
  · cases hx; cases hy; cases e
    exact .inl ⟨rfl, by rw [dec_bl]; exact Bool.beq_eq_decide_eq _ _⟩
  · cases hx; cases hy; cases e
    exact .inl ⟨rfl, rfl⟩
  · cases hx; cases hy; cases e
    exact .inl ⟨rfl, rfl⟩
  · cases hx; cases hy; cases e
    exact .inl ⟨rfl, rfl⟩
  · split at e
    · rename_i d d' h1 h2
      split at e
      · rename_i hs
        rw [Bool.and_eq_true] at hs
        cases e
        exact .inr ⟨d, d', (dp_of r 30).1 _ _ _ hx h1, (dp_of r 30).1 _ _ _ hy h2, hs.1, hs.2, rfl⟩
      · cases e
    · cases e
theorem op_eqM (hu : X.A.units + 64 < cLine) : OpM A X W (compareOp .Eq) eqM := by
  refine ⟨_, op_eq.or (op_eqD hu), fun m st σ H x y u v Q r hx hy k => ?_⟩
  unfold eqM at k
  split at k
  · rename_i kk e
    have q := k.ok .refl r _ (.bl _)
    rcases eqD_ok r hx hy e with ⟨h1, h2⟩ | ⟨d, d', h1, h2, h3, h4, h5⟩
    · exact .inl ⟨h1, by rw [h2]; exact q⟩
    · exact .inr ⟨d, d', h1, h2, h3, h4, by rw [h5]; exact q⟩
  · exact k.elim
theorem op_neM (hu : X.A.units + 64 < cLine) : OpM A X W (compareOp .NotEq) neM := by
  refine ⟨_, op_ne.or (op_neD hu), fun m st σ H x y u v Q r hx hy k => ?_⟩
  unfold neM at k
  split at k
  · rename_i kk e
    have q := k.ok .refl r _ (.bl _)
    rcases eqD_ok r hx hy e with ⟨h1, h2⟩ | ⟨d, d', h1, h2, h3, h4, h5⟩
    · exact .inl ⟨h1, by rw [h2]; exact q⟩
    · exact .inr ⟨d, d', h1, h2, h3, h4, by rw [h5]; exact q⟩
  · exact k.elim
end
section
variable {A : AD} {X : Cx} {W : WX}
def ClM (A : AD) (X : Cx) (W : WX) (f : Value) (g : List MV → Sto → R MV) : Prop :=
  ∃ r : List V → Hp → VK → Prop, CallR X f r ∧ ∀ (m : List Addr) (st : Sto) (σ : L2.St) (H : Hp) (xs : List MV) (us : List V) (Q : VK), Rel (gc A X) m st H → RVs (gc A X) m H xs us → Run (gc A X) W σ m H (g xs st) (kV (gc A X) Q) → r us H Q
def eCall (g : List MV → Sto → R MV) (fa : DA) : DE := fun ρ st => bnd (fa ρ st) fun xs st1 => g xs st1
theorem tCB_of {c : GC} {r : List V → Hp → VK → Prop} {g : List MV → Sto → R MV} {fa : DA} {σ : L2.St} {H : Hp} (hr : ∀ (m : List Addr) (st : Sto) (σ : L2.St) (H : Hp) (xs : List MV) (us : List V) (Q : VK), Rel c m st H → RVs c m H xs us → Run c W σ m H (g xs st) (kV c Q) → r us H Q)
    {Q : VK} (h : tM c W (eCall g fa) σ H Q) : tCB r (tMA c W fa) σ H Q := by
  obtain ⟨m, ρ, st, rr, v, k⟩ := h
  exact tMA.thenG rr v k fun xs us st1 m1 H1 r1 e1 v1 hus k1 => hr m1 st1 σ H1 xs us Q r1 hus k1
theorem CallR.or {f : Value} {r r' : List V → Hp → VK → Prop} (h : CallR X f r) (h' : CallR X f r') : CallR X f (fun xs H Q => r xs H Q ∨ r' xs H Q) := fun pins s σ H xs us Q I rr q =>
  q.elim (h pins s σ H xs us Q I rr) (h' pins s σ H xs us Q I rr)
def lenD (x : MV) (st : Sto) : Option Int :=
  match x with
  | .str y => if y.length ≤ sizeLine then some y.length else none
  | .tup xs => some xs.length
  | .ref i => (listOf st i).map fun xs => (xs.length : Int)
  | _ => none
def lenM (xs : List MV) (st : Sto) : R MV :=
  match xs with
  | [x] => match lenD x st with | some n => ret (.int n) st | none => none
  | _ => none
theorem cl_len : ClM A X W (.builtin "len") lenM := by
  refine ⟨_, call_len, fun m st σ H xs us Q r h k => ?_⟩
  unfold lenM at k
  split at k
  · rename_i x
    cases h with
    | cons h h' =>
    cases h'
    split at k
    · rename_i n e
      have q := k.ok .refl r _ (.int n)
      unfold lenD at e
      split at e
      · cases h
        split at e
        · rename_i hl
          cases e
          exact ⟨_, _, rfl, ⟨hl, rfl⟩, q⟩
        · cases e
      · cases h with
        | @tup a ys vs hs hv =>
        cases e
        exact ⟨_, vs.length, rfl, .inr ⟨vs, hs.toT, rfl⟩, by rw [← hv.length]; exact q⟩
      · rename_i i
        cases h with
        | @ref i a hi =>
        cases q2 : listOf st i with
        | none => rw [q2] at e; cases e
        | some ys =>
          rw [q2] at e
          cases e
          obtain ⟨vs, hs, hv⟩ := r.list q2 hi
          exact ⟨_, vs.length, rfl, .inl ⟨vs, hs, rfl⟩, by rw [← hv.length]; exact q⟩
      · cases e
    · exact k.elim
  · exact k.elim
def absM (xs : List MV) (st : Sto) : R MV := match xs with | [.int i] => ret (.int (if i < 0 then -i else i)) st | _ => none
def max2M (xs : List MV) (st : Sto) : R MV := match xs with | [.int i, .int j] => ret (.int (if j > i then j else i)) st | _ => none
def min2M (xs : List MV) (st : Sto) : R MV := match xs with | [.int i, .int j] => ret (.int (if j < i then j else i)) st | _ => none
def intM (xs : List MV) (st : Sto) : R MV := match xs with | [.int i] => ret (.int i) st | [.bl k] => ret (.int (if k then 1 else 0)) st | _ => none
def strM (xs : List MV) (st : Sto) : R MV := match xs with | [.int i] => if i.natAbs.log2 < 1920 then ret (.str (toString i)) st else none | _ => none
def divmodM (xs : List MV) (st : Sto) : R MV := match xs with | [.int i, .int j] => if 0 < j ∧ j < 1073741824 then ret (.tup [.int (i / j), .int (i % j)]) st else none | _ => none
theorem cl_abs : ClM A X W (.builtin "abs") absM := by
  refine ⟨_, call_abs, fun m st σ H xs us Q r h k => ?_⟩
  unfold absM at k
  split at k
  · rename_i i
    match us, h with
    | [_], .cons (.int _) .nil => exact ⟨i, rfl, k.ok .refl r _ (.int _)⟩
  · exact k.elim
theorem cl_max2 (hc : X.calm = true) : ClM A X W (.builtin "max") max2M := by
  refine ⟨_, call_max2 hc, fun m st σ H xs us Q r h k => ?_⟩
  unfold max2M at k
  split at k
  · rename_i i j
    match us, h with
    | [_, _], .cons (.int _) (.cons (.int _) .nil) => exact ⟨i, j, rfl, k.ok .refl r _ (.int _)⟩
  · exact k.elim
theorem cl_min2 (hc : X.calm = true) : ClM A X W (.builtin "min") min2M := by
  refine ⟨_, call_min2 hc, fun m st σ H xs us Q r h k => ?_⟩
  unfold min2M at k
  split at k
  · rename_i i j
    match us, h with
    | [_, _], .cons (.int _) (.cons (.int _) .nil) => exact ⟨i, j, rfl, k.ok .refl r _ (.int _)⟩
  · exact k.elim
theorem cl_int : ClM A X W (.type "int") intM := by
  refine ⟨_, call_int1, fun m st σ H xs us Q r h k => ?_⟩
  unfold intM at k
  split at k
  · rename_i i
    match us, h with
    | [_], .cons (.int _) .nil => exact .inl ⟨i, rfl, k.ok .refl r _ (.int _)⟩
  · rename_i b
    match us, h with
    | [_], .cons (.bl _) .nil => exact .inr ⟨b, rfl, k.ok .refl r _ (.int _)⟩
  · exact k.elim
theorem cl_str : ClM A X W (.type "str") strM := by
  refine ⟨_, call_str_int, fun m st σ H xs us Q r h k => ?_⟩
  unfold strM at k
  split at k
  · rename_i i
    split at k
    · rename_i hl
      match us, h with
      | [_], .cons (.int _) .nil => exact ⟨i, rfl, hl, k.ok .refl r _ (.str _)⟩
    · exact k.elim
  · exact k.elim
theorem cl_divmod : ClM A X W (.builtin "divmod") divmodM := by
  refine ⟨_, divmodZ, fun m st σ H xs us Q r h k => ?_⟩
  unfold divmodM at k
  split at k
  · rename_i i j
    split at k
    · rename_i hl
      match us, h with
      | [_, _], .cons (.int _) (.cons (.int _) .nil) => exact ⟨i, j, rfl, hl, new_tup r (.cons (.int _) (.cons (.int _) .nil)) k⟩
    · exact k.elim
  · exact k.elim
def seqM (x : MV) (st : Sto) : Option (List MV) :=
  match x with
  | .tup xs => some xs
  | .ref i => listOf st i
  | _ => none
def tupleM (xs : List MV) (st : Sto) : R MV := match xs with | [x] => (match seqM x st with | some ys => ret (.tup ys) st | none => none) | _ => none
def listM (xs : List MV) (st : Sto) : R MV := match xs with | [x] => (match seqM x st with | some ys => ret (.ref st.length) (st ++ [.lst ys]) | none => none) | _ => none
theorem seqM_ok {c : GC} {m : List Addr} {st : Sto} {H : Hp} {x : MV} {u : V} {ys : List MV} (r : Rel c m st H) (h : RV c m H x u) (e : seqM x st = some ys) :
    ∃ a vs, u = .ref a ∧ RVs c m H ys vs ∧ ((SqL c.K H a vs ∧ (∃ i, x = .ref i ∧ listOf st i = some ys)) ∨ (SqD c.K H a vs ∧ x = .tup ys)) := by
  unfold seqM at e
  split at e
  · cases e
    cases h with
    | @tup a xs vs hs hv => exact ⟨a, vs, rfl, hv, .inr ⟨hs, rfl⟩⟩
  · cases h with
    | @ref i a hi =>
    obtain ⟨vs, hs, hv⟩ := r.list e hi
    exact ⟨a, vs, rfl, hv, .inl ⟨hs, _, rfl, e⟩⟩
  · cases e
theorem cl_tuple : ClM A X W (.type "tuple") tupleM := by
  refine ⟨_, tupleZ, fun m st σ H xs us Q r h k => ?_⟩
  unfold tupleM at k
  split at k
  · rename_i x
    cases h with
    | cons h h' =>
    cases h'
    split at k
    · rename_i ys e
      obtain ⟨a, vs, rfl, hv, ⟨hs, _⟩ | ⟨hs, rfl⟩⟩ := seqM_ok r h e
      · exact ⟨a, vs, rfl, .inl ⟨hs, new_tup r hv k⟩⟩
      · exact ⟨a, vs, rfl, .inr ⟨hs.toT, k.ok .refl r _ h⟩⟩
    · exact k.elim
  · exact k.elim
theorem cl_list : ClM A X W (.type "list") listM := by
  refine ⟨_, call_list_of, fun m st σ H xs us Q r h k => ?_⟩
  unfold listM at k
  split at k
  · rename_i x
    cases h with
    | cons h h' =>
    cases h'
    split at k
    · rename_i ys e
      obtain ⟨a, vs, rfl, hv, q⟩ := seqM_ok r h e
      exact ⟨a, vs, rfl, q.imp (·.1) (·.1.toT), new_lst r hv k⟩
    · exact k.elim
  · exact k.elim
end
end CS
namespace CS
open PySem PySem.Spec L2
section
variable {A : AD} {X : Cx} {W : WX}
def bools : List MV → Option (List Bool)
  | [] => some []
  | .bl b :: r => (bools r).map (b :: ·)
  | _ :: _ => none
def intsM : List MV → Option (List Int)
  | [] => some []
  | .int i :: r => (intsM r).map (i :: ·)
  | _ :: _ => none
theorem bools_ok {c : GC} {m : List Addr} {H : Hp} : ∀ {xs : List MV} {us : List V} {bs : List Bool}, RVs c m H xs us → bools xs = some bs → us = bs.map V.bl
  | _, _, _, .nil, e => by cases e; rfl
  | x :: xs, _, _, .cons h r, e => by
    cases h <;> unfold bools at e
    case bl b =>
      cases q : bools xs with
      | none => rw [q] at e; cases e
      | some bs => rw [q] at e; cases e; rw [bools_ok r q]; rfl
    all_goals cases e
theorem intsM_ok {c : GC} {m : List Addr} {H : Hp} : ∀ {xs : List MV} {us : List V} {ns : List Int}, RVs c m H xs us → intsM xs = some ns → us = ns.map V.int
  | _, _, _, .nil, e => by cases e; rfl
  | x :: xs, _, _, .cons h r, e => by
    cases h <;> unfold intsM at e
    case int i =>
      cases q : intsM xs with
      | none => rw [q] at e; cases e
      | some ns => rw [q] at e; cases e; rw [intsM_ok r q]; rfl
    all_goals cases e
def boolsOf (st : Sto) (x : MV) : Option (List Bool) := match x with | .ref i => (match listOf st i with | some xs => bools xs | none => none) | _ => none
def intsOf (st : Sto) (x : MV) : Option (List Int) := match x with | .ref i => (match listOf st i with | some xs => intsM xs | none => none) | _ => none
theorem boolsOf_ok {c : GC} {m : List Addr} {st : Sto} {H : Hp} {x : MV} {u : V} {bs : List Bool} (r : Rel c m st H) (h : RV c m H x u) (e : boolsOf st x = some bs) : ∃ a, u = .ref a ∧ SqL c.K H a (bs.map V.bl) := by
  unfold boolsOf at e
  split at e
  · cases h with
    | @ref i a hi =>
    split at e
    · rename_i xs q
      obtain ⟨vs, hs, hv⟩ := r.list q hi
      rw [bools_ok hv e] at hs
      exact ⟨a, rfl, hs⟩
    · cases e
  · cases e
theorem intsOf_ok {c : GC} {m : List Addr} {st : Sto} {H : Hp} {x : MV} {u : V} {ns : List Int} (r : Rel c m st H) (h : RV c m H x u) (e : intsOf st x = some ns) : ∃ a, u = .ref a ∧ SqL c.K H a (ns.map V.int) := by
  unfold intsOf at e
  split at e
  · cases h with
    | @ref i a hi =>
    split at e
    · rename_i xs q
      obtain ⟨vs, hs, hv⟩ := r.list q hi
      rw [intsM_ok hv e] at hs
      exact ⟨a, rfl, hs⟩
    · cases e
  · cases e
def anyM (xs : List MV) (st : Sto) : R MV := match xs with | [x] => (match boolsOf st x with | some bs => ret (.bl (bs.any id)) st | none => none) | _ => none
def allM (xs : List MV) (st : Sto) : R MV := match xs with | [x] => (match boolsOf st x with | some bs => ret (.bl (bs.all id)) st | none => none) | _ => none
def sumM (xs : List MV) (st : Sto) : R MV := match xs with | [x] => (match intsOf st x with | some ns => ret (.int ns.sum) st | none => none) | _ => none
def maxL : List Int → Int → Int
  | [], a => a
  | b :: r, a => maxL r (if a < b then b else a)
def minL : List Int → Int → Int
  | [], a => a
  | b :: r, a => minL r (if b < a then b else a)
theorem maxL_mem : ∀ (l : List Int) (a : Int), maxL l a = a ∨ maxL l a ∈ l
  | [], a => .inl rfl
  | b :: r, a => by
    unfold maxL
    rcases maxL_mem r (if a < b then b else a) with h | h
    · rw [h]
      split
      · exact .inr List.mem_cons_self
      · exact .inl rfl
    · exact .inr (List.mem_cons_of_mem _ h)
theorem maxL_ge : ∀ (l : List Int) (a : Int), a ≤ maxL l a ∧ ∀ x ∈ l, x ≤ maxL l a
  | [], a => ⟨Int.le_refl _, fun _ h => nomatch h⟩
  | b :: r, a => by
    unfold maxL
    obtain ⟨h1, h2⟩ := maxL_ge r (if a < b then b else a)
    refine ⟨by split at h1 <;> rename_i h <;> simp only [h, if_true, if_false] <;> omega, fun x hx => ?_⟩
    rcases List.mem_cons.mp hx with rfl | hx
    · split at h1 <;> rename_i h <;> simp only [h, if_true, if_false] <;> omega
    · exact h2 x hx
theorem minL_mem : ∀ (l : List Int) (a : Int), minL l a = a ∨ minL l a ∈ l
  | [], a => .inl rfl
  | b :: r, a => by
    unfold minL
    rcases minL_mem r (if b < a then b else a) with h | h
    · rw [h]
      split
      · exact .inr List.mem_cons_self
      · exact .inl rfl
    · exact .inr (List.mem_cons_of_mem _ h)
theorem minL_le : ∀ (l : List Int) (a : Int), minL l a ≤ a ∧ ∀ x ∈ l, minL l a ≤ x
  | [], a => ⟨Int.le_refl _, fun _ h => nomatch h⟩
  | b :: r, a => by
    unfold minL
    obtain ⟨h1, h2⟩ := minL_le r (if b < a then b else a)
    refine ⟨by split at h1 <;> rename_i h <;> simp only [h, if_true, if_false] <;> omega, fun x hx => ?_⟩
    rcases List.mem_cons.mp hx with rfl | hx
    · split at h1 <;> rename_i h <;> simp only [h, if_true, if_false] <;> omega
    · exact h2 x hx
theorem maxL_eq {l : List Int} {a m : Int} (h : m ∈ a :: l) (g : ∀ y ∈ a :: l, y ≤ m) : m = maxL l a := by
  obtain ⟨h1, h2⟩ := maxL_ge l a
  have hm : m ≤ maxL l a := by
    rcases List.mem_cons.mp h with rfl | h
    · exact h1
    · exact h2 m h
  have : maxL l a ≤ m := by
    rcases maxL_mem l a with e | e
    · rw [e]; exact g a List.mem_cons_self
    · exact g _ (List.mem_cons_of_mem _ e)
  omega
theorem minL_eq {l : List Int} {a m : Int} (h : m ∈ a :: l) (g : ∀ y ∈ a :: l, m ≤ y) : m = minL l a := by
  obtain ⟨h1, h2⟩ := minL_le l a
  have hm : minL l a ≤ m := by
    rcases List.mem_cons.mp h with rfl | h
    · exact h1
    · exact h2 m h
  have : m ≤ minL l a := by
    rcases minL_mem l a with e | e
    · rw [e]; exact g a List.mem_cons_self
    · exact g _ (List.mem_cons_of_mem _ e)
  omega
def maxM (xs : List MV) (st : Sto) : R MV :=
  match xs with
  | [x] => (match intsOf st x with | some (a :: l) => ret (.int (maxL l a)) st | _ => none)
  | xs => max2M xs st
def minM (xs : List MV) (st : Sto) : R MV :=
  match xs with
  | [x] => (match intsOf st x with | some (a :: l) => ret (.int (minL l a)) st | _ => none)
  | xs => min2M xs st
theorem cl_any (hc : X.calm = true) : ClM A X W (.builtin "any") anyM := by
  refine ⟨_, cr_any hc, fun m st σ H xs us Q r h k => ?_⟩
  unfold anyM at k
  split at k
  · cases h with
    | cons h h' =>
    cases h'
    split at k
    · rename_i bs e
      obtain ⟨a, rfl, hs⟩ := boolsOf_ok r h e
      exact ⟨a, bs, rfl, hs, k.ok .refl r _ (.bl _)⟩
    · exact k.elim
  · exact k.elim
theorem cl_all (hc : X.calm = true) : ClM A X W (.builtin "all") allM := by
  refine ⟨_, cr_all hc, fun m st σ H xs us Q r h k => ?_⟩
  unfold allM at k
  split at k
  · cases h with
    | cons h h' =>
    cases h'
    split at k
    · rename_i bs e
      obtain ⟨a, rfl, hs⟩ := boolsOf_ok r h e
      exact ⟨a, bs, rfl, hs, k.ok .refl r _ (.bl _)⟩
    · exact k.elim
  · exact k.elim
theorem cl_sum (hc : X.calm = true) : ClM A X W (.builtin "sum") sumM := by
  refine ⟨_, cr_sum hc, fun m st σ H xs us Q r h k => ?_⟩
  unfold sumM at k
  split at k
  · cases h with
    | cons h h' =>
    cases h'
    split at k
    · rename_i ns e
      obtain ⟨a, rfl, hs⟩ := intsOf_ok r h e
      exact ⟨a, ns, rfl, hs, k.ok .refl r _ (.int _)⟩
    · exact k.elim
  · exact k.elim
theorem cl_max (hc : X.calm = true) : ClM A X W (.builtin "max") maxM := by
  obtain ⟨r2, c2, q2⟩ := cl_max2 (A := A) (W := W) hc
  refine ⟨_, CallR.or (cr_max hc) c2, fun m st σ H xs us Q r h k => ?_⟩
  unfold maxM at k
  split at k
  · cases h with
    | cons h h' =>
    cases h'
    split at k
    · rename_i a l e
      obtain ⟨b, rfl, hs⟩ := intsOf_ok r h e
      refine .inl ⟨b, a :: l, rfl, hs, by simp, fun mm h1 h2 => ?_⟩
      rw [maxL_eq h1 h2]
      exact k.ok .refl r _ (.int _)
    · exact k.elim
  · exact .inr (q2 m st σ H _ us Q r h k)
theorem cl_min (hc : X.calm = true) : ClM A X W (.builtin "min") minM := by
  obtain ⟨r2, c2, q2⟩ := cl_min2 (A := A) (W := W) hc
  refine ⟨_, CallR.or (cr_min hc) c2, fun m st σ H xs us Q r h k => ?_⟩
  unfold minM at k
  split at k
  · cases h with
    | cons h h' =>
    cases h'
    split at k
    · rename_i a l e
      obtain ⟨b, rfl, hs⟩ := intsOf_ok r h e
      refine .inl ⟨b, a :: l, rfl, hs, by simp, fun mm h1 h2 => ?_⟩
      rw [minL_eq h1 h2]
      exact k.ok .refl r _ (.int _)
    · exact k.elim
  · exact .inr (q2 m st σ H _ us Q r h k)
def ixM (x y : MV) (st : Sto) : R MV :=
  match x, y with
  | .tup xs, .int i => (match atI xs i with | some v => ret v st | none => none)
  | .ref j, .int i => (match listOf st j with | some xs => (match atI xs i with | some v => ret v st | none => none) | none => none)
  | .str z, .int i => if z.length ≤ sizeLine then (match atI z.cps.toList i with | some c => ret (.str ⟨#[c]⟩) st | none => none) else none
  | _, _ => none
theorem atI_rvs {c : GC} {m : List Addr} {H : Hp} {xs : List MV} {us : List V} {i : Int} {x : MV} (r : RVs c m H xs us) (h : atI xs i = some x) : ∃ u, atI us i = some u ∧ RV c m H x u := by
  unfold atI at h ⊢
  rw [← r.length]
  cases q : ixN xs.length i with
  | none => rw [q] at h; cases h
  | some j =>
    rw [q] at h
    exact RVs.get' r h
theorem plain_ix {b : Expr} (h : ∀ l u p, b ≠ .Slice l u none p) : PlainIx b := by
  intro o i
  unfold subscripted
  split
  · rename_i l u p _
    exact absurd rfl (h _ _ _)
  · rename_i h2; cases h2
  · rfl
theorem pm_ix {a b : Expr} {fa fb : DE} {pos : Pos} (ha : PM A X W a fa) (hb : PM A X W b fb) (hs : PlainIx b) : PM A X W (.Subscript a b pos) (eOp ixM fa fb) := by
  refine (pe_ix ix_seq ha hb hs).imp fun σ H Q q => tOp_of (c := gc A X) (fun m st σ H x y u v Q r hx hy k => ?_) q
  unfold ixM at k
  split at k
  · cases hx with
    | @tup a xs vs hs hv =>
    cases hy
    split at k
    · rename_i v e
      obtain ⟨u, h1, h2⟩ := atI_rvs hv e
      exact .inr (.inl ⟨a, vs, _, u, rfl, rfl, hs.toT, h1, k.ok .refl r _ h2⟩)
    · exact k.elim
  · cases hx with
    | @ref j a hj =>
    cases hy
    split at k
    · rename_i xs q
      obtain ⟨vs, hs, hv⟩ := r.list q hj
      split at k
      · rename_i v e
        obtain ⟨u, h1, h2⟩ := atI_rvs hv e
        exact .inl ⟨a, vs, _, u, rfl, rfl, hs, h1, k.ok .refl r _ h2⟩
      · exact k.elim
    · exact k.elim
  · cases hx
    cases hy
    split at k
    · rename_i hl
      split at k
      · rename_i cc e
        exact .inr (.inr ⟨_, _, cc, rfl, rfl, hl, e, k.ok .refl r _ (.str _)⟩)
      · exact k.elim
    · exact k.elim
  · exact k.elim
abbrev DO := MEnv → Sto → R (Option Int)
def tMO (c : GC) (W : WX) (f : DO) : TO := fun σ H Q => ∃ m ρ st, Rel c m st H ∧ REnv c m H ρ σ ∧ Run c W σ m H (f ρ st) (fun o _ _ H' => Q o H')
abbrev PMO (A : AD) (X : Cx) (W : WX) (e : Option Expr) (f : DO) : Prop := PO X e (tMO (gc A X) W f)
def oNone : DO := fun _ st => ret none st
def oSome (f : DE) : DO := fun ρ st => bnd (f ρ st) fun x st1 => match x with | .int i => ret (some i) st1 | _ => none
theorem pmo_none : PMO A X W none oNone := ⟨fun pins s σ H Q I ⟨m, ρ, st, r, v, k⟩ => po_none.run pins s σ H Q I (Run.ok k .refl r)⟩
theorem pmo_some {e : Expr} {f : DE} (h : PM A X W e f) : PMO A X W (some e) (oSome f) := ⟨fun pins s σ H Q I ⟨m, ρ, st, r, v, k⟩ => (po_some h).run pins s σ H Q I (by
  refine tM.thenG r v k fun x u st1 m1 H1 r1 e1 v1 hu k1 => ?_
  cases x with
  | int i => cases hu; exact ⟨_, rfl, Run.ok k1 .refl r1⟩
  | _ => exact k1.elim)⟩
def cutM (xs : List MV) (lo hi : Option Int) : List MV := (xs.drop (HT.sIx xs.length 0 lo)).take (HT.sIx xs.length xs.length hi - HT.sIx xs.length 0 lo)
def slM (x : MV) (lo hi : Option Int) (st : Sto) : R MV :=
  match x with
  | .tup xs => ret (.tup (cutM xs lo hi)) st
  | .ref i => (match listOf st i with | some xs => ret (.ref st.length) (st ++ [.lst (cutM xs lo hi)]) | none => none)
  | _ => none
def eSl (fa : DE) (fl fh : DO) : DE := fun ρ st => bnd (fa ρ st) fun x st1 => bnd (fl ρ st1) fun lo st2 => bnd (fh ρ st2) fun hi st3 => slM x lo hi st3
theorem cut_rvs {c : GC} {m : List Addr} {H : Hp} {xs : List MV} {us : List V} (r : RVs c m H xs us) (lo hi : Option Int) : RVs c m H (cutM xs lo hi) (cutV us lo hi) := by
  unfold cutM cutV
  rw [← r.length]
  exact (r.drop _).take _
theorem tMO.thenG {α : Type} {c : GC} {f : DO} {g : Option Int → Sto → R α} {K : Kn α} {Q : Option Int → Hp → Prop} {σ : L2.St} {H : Hp} {m : List Addr} {ρ : MEnv} {st : Sto} (r : Rel c m st H) (v : REnv c m H ρ σ) (k : Run c W σ m H (CS.bnd (f ρ st) g) K)
    (h : ∀ x st' m' H', Rel c m' st' H' → Ext c m H m' H' → REnv c m' H' ρ σ → Run c W σ m' H' (g x st') K → Q x H') : tMO c W f σ H Q :=
  ⟨m, ρ, st, r, v, k.bnd.imp fun x st' m' H' r' e' q => h x st' m' H' r' e' (v.mono e') q⟩
theorem pm_slice {e : Expr} {fa : DE} {lo hi : Option Expr} {fl fh : DO} {pos p2 : Pos} (he : PM A X W e fa) (hl : PMO A X W lo fl) (hu : PMO A X W hi fh) : PM A X W (.Subscript e (.Slice lo hi none p2) pos) (eSl fa fl fh) := by
  refine (pe_slice (SlR.or sl_list slZ) he hl hu).imp fun σ H Q ⟨m, ρ, st, r, v, k⟩ => ?_
  refine tM.thenG r v k fun x u st1 m1 H1 r1 e1 v1 hu1 k1 => ?_
  refine tMO.thenG r1 v1 k1 fun lo st2 m2 H2 r2 e2 v2 k2 => ?_
  refine tMO.thenG r2 v2 k2 fun hi st3 m3 H3 r3 e3 v3 k3 => ?_
  have hx := hu1.mono (e2.trans e3)
  unfold slM at k3
  split at k3
  · cases hx with
    | @tup a xs vs hs hv =>
    refine .inr ⟨a, vs, rfl, hs.toT, fun hw => ?_, new_tup r3 (cut_rvs hv _ _) k3⟩
    refine Run.ok k3 .refl r3 _ (.tup hs ?_)
    have e : ∀ {α : Type} (l : List α), (l.drop 0).take (l.length - 0) = l := fun l => by simp
    have := cut_rvs hv lo hi
    unfold cutM
    rw [hv.length, hw.1, hw.2]
    rw [← hv.length, e]
    exact hv
  · cases hx with
    | @ref i a hi =>
    split at k3
    · rename_i xs q
      obtain ⟨vs, hs, hv⟩ := r3.list q hi
      exact .inl ⟨a, vs, rfl, hs, new_lst r3 (cut_rvs hv _ _) k3⟩
    · exact k3.elim
  · exact k3.elim
end
end CS
namespace CS
open PySem PySem.Spec L2

def sb {α : Type} (ρ : MEnv) (r : R α) (f : α → Sto → SR) : SR :=
  match r with
  | none => none
  | some (.error x, st) => some (.exc x, ρ, st)
  | some (.ok a, st) => f a st
section
variable {c : GC} {W : WX} {D : Ends} {σ : L2.St} {m m' : List Addr} {H H' : Hp} {ρ : MEnv} {st : Sto}
theorem SRun.mono (h : SRun c W D m H r) (e : Ext c m H m' H') : SRun c W D m' H' r := by
  match r, h with
  | none, h => exact h
  | some (.nx, ρ, st), h => exact fun m1 H1 s1 e1 r1 v1 => h m1 H1 s1 (e.trans e1) r1 v1
  | some (.rt v, _, st), h => exact fun m1 H1 u e1 r1 v1 => h m1 H1 u (e.trans e1) r1 v1
  | some (.bk, ρ, st), h => exact fun m1 H1 s1 e1 r1 v1 => h m1 H1 s1 (e.trans e1) r1 v1
  | some (.ct, ρ, st), h => exact fun m1 H1 s1 e1 r1 v1 => h m1 H1 s1 (e.trans e1) r1 v1
  | some (.exc x, ρ, st), h => exact fun m1 H1 s1 cls d e1 r1 v1 x1 => h m1 H1 s1 cls d (e.trans e1) r1 v1 x1
theorem SRun.sb {α : Type} {r : R α} {f : α → Sto → SR} (h : SRun c W D m H (CS.sb ρ r f)) (v : REnv c m H ρ σ) : Run c W σ m H r (fun a st m' H' => SRun c W D m' H' (f a st)) := by
  match r, h with
  | none, h => exact h
  | some (.error x, st), h => exact fun m1 H1 cls d e1 r1 x1 => h m1 H1 σ cls d e1 r1 (v.mono e1) x1
  | some (.ok a, st), h => exact fun m1 H1 e1 r1 => SRun.mono h e1
end
abbrev DG := MV → DS
abbrev DGs := List MV → DS
abbrev endN (Q : L2.St → Hp → Prop) : Ends := { nx := Q, rt := fun _ _ => False }
def tMG (c : GC) (W : WX) (g : DG) : TG := fun v σ H Q => ∃ m ρ st x, Rel c m st H ∧ REnv c m H ρ σ ∧ RV c m H x v ∧ SRun c W (endN Q) m H (g x ρ st)
def tMGs (c : GC) (W : WX) (g : DGs) : TGs := fun vs σ H Q => ∃ m ρ st xs, Rel c m st H ∧ REnv c m H ρ σ ∧ RVs c m H xs vs ∧ SRun c W (endN Q) m H (g xs ρ st)
theorem _root_.L2.PG.imp {X : Cx} {e : Expr} {t t' : TG} (h : PG X e t) (q : ∀ v σ H Q, t' v σ H Q → t v σ H Q) : PG X e t' := ⟨fun pins s σ H v u Q I r w => h.run pins s σ H v u Q I r (q _ _ _ _ w)⟩
theorem _root_.L2.PGs.imp {X : Cx} {e : List Expr} {t t' : TGs} (h : PGs X e t) (q : ∀ v σ H Q, t' v σ H Q → t v σ H Q) : PGs X e t' := ⟨fun pins s σ H v u Q I r w => h.run pins s σ H v u Q I r (q _ _ _ _ w)⟩
section
variable {A : AD} {X : Cx} {W : WX} {pos : Pos}
abbrev PMG (A : AD) (X : Cx) (W : WX) (e : Expr) (g : DG) : Prop := PG X e (tMG (gc A X) W g)
abbrev PMGs (A : AD) (X : Cx) (W : WX) (e : List Expr) (g : DGs) : Prop := PGs X e (tMGs (gc A X) W g)
def gNm (i : Nat) : DG := fun x ρ st => some (.nx, ρ.set i (some x), st)
theorem pmg_name {i : Nat} {x : Str} (hN : X.N.Nodup) (hi : X.N[i]? = some x) (hx : Loc X.env.scope x) (hf : X.fn x = true ∨ X.env.scope.names.lookup x = some .local) : PMG A X W (.Name x pos) (gNm i) :=
  (pg_name hN hi hx hf).imp fun v σ H Q ⟨m, ρ, st, x, r, w, hx, k⟩ => k m H _ .refl r (w.set hx)
def gNl : DGs := fun xs ρ st => match xs with | [] => some (.nx, ρ, st) | _ => none
def sqn (r : SR) (f : DS) : SR := match r with | some (.nx, ρ, st) => f ρ st | r => r
def gCn (g : DG) (gs : DGs) : DGs := fun xs ρ st => match xs with | x :: xs => sqn (g x ρ st) (gs xs) | [] => none
theorem pmgs_nil : PMGs A X W [] gNl := pgs_nil.imp fun vs σ H Q ⟨m, ρ, st, xs, r, w, hx, k⟩ => by
  unfold gNl at k
  split at k
  · cases hx
    exact ⟨rfl, k m H σ .refl r w⟩
  · exact k.elim
theorem SRun.sqn {c : GC} {D : Ends} {m : List Addr} {H : Hp} {r : SR} {f : DS} (h : SRun c W D m H (CS.sqn r f)) :
    SRun c W { D with nx := fun σ' H' => ∃ m' ρ' st', Ext c m H m' H' ∧ Rel c m' st' H' ∧ REnv c m' H' ρ' σ' ∧ SRun c W D m' H' (f ρ' st') } m H r := by
  match r, h with
  | none, h => exact h
  | some (.nx, ρ, st), h => exact fun m1 H1 s1 e1 r1 v1 => ⟨m1, ρ, st, e1, r1, v1, SRun.mono (r := f ρ st) h e1⟩
  | some (.rt v, _, st), h => exact h
  | some (.bk, ρ, st), h => exact h
  | some (.ct, ρ, st), h => exact h
  | some (.exc x, ρ, st), h => exact h
theorem pmgs_cons {e : Expr} {es : List Expr} {g : DG} {gs : DGs} (h1 : PMG A X W e g) (h2 : PMGs A X W es gs) (hs : (assignEach (e :: es) X.env).map (·.2) = assign e X.env :: (assignEach es X.env).map (·.2)) : PMGs A X W (e :: es) (gCn g gs) := by
  refine (pgs_cons h1 h2 hs).imp fun vs σ H Q ⟨m, ρ, st, xs, r, w, hx, k⟩ => ?_
  unfold gCn at k
  split at k
  · cases hx with
    | @cons x v xs vs hx hxs =>
    refine ⟨v, vs, rfl, m, ρ, st, _, r, w, hx, ?_⟩
    have k2 := SRun.sqn k
    revert k2
    generalize g _ ρ st = rr
    intro k2
    match rr, k2 with
    | none, h => exact h
    | some (.nx, ρ1, st1), h =>
      intro m1 H1 s1 e1 r1 v1
      obtain ⟨m2, ρ2, st2, e2, r2, v2, q⟩ := h m1 H1 s1 e1 r1 v1
      exact ⟨m2, ρ2, st2, _, r2, v2, hxs.mono e2, q⟩
    | some (.rt v, _, st), h => exact h
    | some (.bk, ρ, st), h => exact h
    | some (.ct, ρ, st), h => exact h
    | some (.exc x, ρ, st), h => exact h
  · exact k.elim
def gTp (gs : DGs) (n : Nat) : DG := fun x ρ st => match x with | .tup xs => if xs.length = n then gs xs ρ st else none | _ => none
theorem pmg_tup {es : List Expr} {k n : Nat} {gs : DGs} (hc : X.calm = true) (h : PMGs A X W es gs) (hn : (assignEach es X.env).length = n) (hst : (assignEach es X.env).findIdx? (·.1) = none) : PMG A X W (.Tuple es k pos) (gTp gs n) := by
  refine (pg_tup hc h hn hst).imp fun v σ H Q ⟨m, ρ, st, x, r, w, hx, k⟩ => ?_
  unfold gTp at k
  split at k
  · cases hx with
    | @tup a xs vs hs hv =>
    split at k
    · rename_i hl
      exact ⟨a, vs, rfl, hs.toT, by rw [← hv.length]; exact hl, m, ρ, st, _, r, w, hv, k⟩
    · exact k.elim
  · exact k.elim
def setM (o i x : MV) (st : Sto) : Option Sto :=
  match o, i with
  | .ref j, .int k => (match st[j]? with
    | some (.lst xs) => (ixN xs.length k).map fun n => st.set j (.lst (xs.set n x))
    | _ => none)
  | _, _ => none
def gSb (fo fi : DE) : DG := fun x ρ st => sb ρ (fo ρ st) fun o st1 => sb ρ (fi ρ st1) fun i st2 => match setM o i x st2 with | some st3 => some (.nx, ρ, st3) | none => none
theorem pmg_sub {o i : Expr} {fo fi : DE} (ho : PM A X W o fo) (hi : PM A X W i fi) (ha : ∀ v, assign (.Subscript o i pos) X.env v = (do
      let ov ← holding [v] (eval o X.env)
      let iv ← holding [v, ov] (eval i X.env)
      standAt pos
      holding [v, ov, iv] (setItem ov iv v)
      release [v, ov, iv] [])) : PMG A X W (.Subscript o i pos) (gSb fo fi) := by
  refine (pg_sub ho hi set_list ha).imp fun v σ H Q ⟨m, ρ, st, x, r, w, hx, k⟩ => ?_
  refine ⟨m, ρ, st, r, w, (SRun.sb k w).imp fun ov st1 m1 H1 r1 e1 k1 u1 hu1 => ?_⟩
  refine ⟨m1, ρ, st1, r1, w.mono e1, (SRun.sb k1 (w.mono e1)).imp fun iv st2 m2 H2 r2 e2 k2 u2 hu2 => ?_⟩
  have ho2 := hu1.mono e2
  have hx2 := hx.mono (e1.trans e2)
  cases q : setM ov iv x st2 with
  | none => simp only [q] at k2; exact k2.elim
  | some st3 =>
    simp only [q] at k2
    unfold setM at q
    split at q
    · cases ho2 with
      | @ref j a hj =>
      cases hu2
      split at q
      · rename_i xs e
        obtain ⟨vs, h1, hv⟩ := r2.lst e hj
        cases q3 : ixN xs.length _ with
        | none => rw [q3] at q; cases q
        | some n =>
          rw [q3] at q
          cases q
          obtain ⟨r3, e3⟩ := r2.setLst e hj (RVs.set hx2 n hv)
          refine ⟨a, vs, _, n, rfl, rfl, h1, by rw [← hv.length]; exact q3, ?_⟩
          exact k2 m2 _ σ e3 r3 (w.mono (e1.trans (e2.trans e3)))
      · cases q
    · cases q
def sNx : DS := fun ρ st => some (.nx, ρ, st)
def sBk : DS := fun ρ st => some (.bk, ρ, st)
def sCt : DS := fun ρ st => some (.ct, ρ, st)
def sSq (f g : DS) : DS := fun ρ st => sqn (f ρ st) g
def sRt (f : DE) : DS := fun ρ st => sb ρ (f ρ st) fun x st1 => some (.rt x, ρ, st1)
def sRn : DS := fun ρ st => some (.rt .non, ρ, st)
def sEx (f : DE) : DS := fun ρ st => sb ρ (f ρ st) fun _ st1 => some (.nx, ρ, st1)
def sIf (p : DB) (f g : DS) : DS := fun ρ st => sb ρ (p ρ st) fun k st1 => if k then f ρ st1 else g ρ st1
def sAs (f : DE) (g : DG) : DS := fun ρ st => sb ρ (f ρ st) fun x st1 => g x ρ st1
def sNo : DS := fun _ _ => none
theorem pms_no {s : Stmt} : PMS A X W s sNo := ps_never.imp fun D σ H ⟨m, ρ, st, r, w, k⟩ => k
theorem pmss_no {s : List Stmt} : PMSs A X W s sNo := pss_never.imp fun D σ H ⟨m, ρ, st, r, w, k⟩ => k
theorem pmss_nil : PMSs A X W [] sNx := pss_nil.imp fun D σ H ⟨m, ρ, st, r, w, k⟩ => k m H σ .refl r w
theorem pms_pass : PMS A X W (.Pass pos) sNx := ps_pass.imp fun D σ H ⟨m, ρ, st, r, w, k⟩ => k m H σ .refl r w
theorem pms_break : PMS A X W (.Break pos) sBk := ps_break.imp fun D σ H ⟨m, ρ, st, r, w, k⟩ => k m H σ .refl r w
theorem pms_cont : PMS A X W (.Continue pos) sCt := ps_continue.imp fun D σ H ⟨m, ρ, st, r, w, k⟩ => k m H σ .refl r w
theorem pms_retN : PMS A X W (.Return none pos) sRn := ps_retN.imp fun D σ H ⟨m, ρ, st, r, w, k⟩ => k m H _ .refl r .non
theorem pms_doc {x j p p'} : PMS A X W (.Expr (.Constant (.str x) j p) p') sNx := ps_doc.imp fun D σ H ⟨m, ρ, st, r, w, k⟩ => k m H σ .refl r w
theorem sRun_sq {c : GC} {D : Ends} {m : List Addr} {H : Hp} {r : SR} {f : DS} (h : SRun c W D m H (sqn r f)) : SRun c W { D with nx := tMS c W f D } m H r := by
  match r, h with
  | none, h => exact h
  | some (.nx, ρ, st), h => exact fun m1 H1 s1 e1 r1 v1 => ⟨m1, ρ, st, r1, v1, SRun.mono (r := f ρ st) h e1⟩
  | some (.rt v, _, st), h => exact h
  | some (.bk, ρ, st), h => exact h
  | some (.ct, ρ, st), h => exact h
  | some (.exc x, ρ, st), h => exact h
theorem pmss_cons {s : Stmt} {rest : List Stmt} {f g : DS} (h1 : PMS A X W s f) (h2 : PMSs A X W rest g) : PMSs A X W (s :: rest) (sSq f g) :=
  (pss_cons h1 h2).imp fun D σ H ⟨m, ρ, st, r, w, k⟩ => ⟨m, ρ, st, r, w, sRun_sq k⟩
theorem pms_ret {e : Expr} {f : DE} (h : PM A X W e f) : PMS A X W (.Return (some e) pos) (sRt f) := by
  refine (ps_ret h).imp fun D σ H ⟨m, ρ, st, r, w, k⟩ => ⟨m, ρ, st, r, w, (SRun.sb k w).imp fun x st1 m1 H1 r1 e1 k1 u hu => ?_⟩
  exact k1 m1 H1 u .refl r1 hu
theorem pms_expr {e : Expr} {f : DE} (h : PM A X W e f) (hs : swapsWith e none pos.line X.env = pure false) : PMS A X W (.Expr e pos) (sEx f) := by
  refine (ps_expr h hs).imp fun D σ H ⟨m, ρ, st, r, w, k⟩ => ⟨m, ρ, st, r, w, (SRun.sb k w).imp fun x st1 m1 H1 r1 e1 k1 u hu => ?_⟩
  exact k1 m1 H1 σ .refl r1 (w.mono e1)
theorem pms_if {t : Expr} {a b : List Stmt} {p : DB} {f g : DS} (hc : PMT A X W t p) (ha : PMSs A X W a f) (hb : PMSs A X W b g) : PMS A X W (.If t a b pos) (sIf p f g) := by
  refine (ps_if hc ha hb).imp fun D σ H ⟨m, ρ, st, r, w, k⟩ => ⟨m, ρ, st, r, w, (SRun.sb k w).imp fun x st1 m1 H1 r1 e1 k1 => ?_⟩
  cases x with
  | true => rw [if_pos rfl]; exact ⟨m1, ρ, st1, r1, w.mono e1, k1⟩
  | false => rw [if_neg Bool.false_ne_true]; exact ⟨m1, ρ, st1, r1, w.mono e1, k1⟩
theorem srun_nx {c : GC} {D : Ends} {m : List Addr} {H : Hp} {r : SR} (hn : ∀ f ρ st, r = some (f, ρ, st) → f = .nx ∨ ∃ x, f = .exc x) (h : SRun c W D m H r) : SRun c W (endN D.nx) m H r := by
  match r, h with
  | none, h => exact h
  | some (.nx, ρ, st), h => exact h
  | some (.rt v, ρ, st), h => rcases hn _ _ _ rfl with z | ⟨_, z⟩ <;> cases z
  | some (.bk, ρ, st), h => rcases hn _ _ _ rfl with z | ⟨_, z⟩ <;> cases z
  | some (.ct, ρ, st), h => rcases hn _ _ _ rfl with z | ⟨_, z⟩ <;> cases z
  | some (.exc x, ρ, st), h => exact h
def Goes (g : DG) : Prop := ∀ x ρ st f ρ' st', g x ρ st = some (f, ρ', st') → f = .nx ∨ ∃ x, f = .exc x
def GoesS (g : DGs) : Prop := ∀ x ρ st f ρ' st', g x ρ st = some (f, ρ', st') → f = .nx ∨ ∃ x, f = .exc x
theorem goes_name {i : Nat} : Goes (gNm i) := fun x ρ st f ρ' st' h => by cases h; exact .inl rfl
theorem sb_end {α : Type} {ρ : MEnv} {r : R α} {f : α → Sto → SR} {fl : Fl} {ρ' : MEnv} {st' : Sto} (h : sb ρ r f = some (fl, ρ', st')) : (∃ x, fl = .exc x) ∨ ∃ a st, f a st = some (fl, ρ', st') := by
  match r, h with
  | some (.error x, st), h => cases h; exact .inl ⟨_, rfl⟩
  | some (.ok a, st), h => exact .inr ⟨a, st, h⟩
theorem goes_sub {fo fi : DE} : Goes (gSb fo fi) := fun x ρ st f ρ' st' h => by
  rcases sb_end h with z | ⟨o, st1, h1⟩
  · exact .inr z
  rcases sb_end h1 with z | ⟨i, st2, h2⟩
  · exact .inr z
  cases q : setM o i x st2 with
  | none => simp only [q] at h2; cases h2
  | some st3 => simp only [q] at h2; cases h2; exact .inl rfl
theorem goes_nil : GoesS gNl := fun x ρ st f ρ' st' h => by
  unfold gNl at h
  split at h
  · cases h; exact .inl rfl
  · cases h
theorem goes_cons {g : DG} {gs : DGs} (h1 : Goes g) (h2 : GoesS gs) : GoesS (gCn g gs) := fun xs ρ st f ρ' st' h => by
  unfold gCn at h
  split at h
  · rename_i x xs
    unfold sqn at h
    split at h
    · exact h2 _ _ _ _ _ _ h
    · exact h1 _ _ _ _ _ _ h
  · cases h
theorem goes_tup {gs : DGs} {n : Nat} (h : GoesS gs) : Goes (gTp gs n) := fun x ρ st f ρ' st' e => by
  unfold gTp at e
  split at e
  · split at e
    · exact h _ _ _ _ _ _ e
    · cases e
  · cases e
theorem pms_asg {tg e : Expr} {f : DE} {g : DG} (he : PM A X W e f) (hg : PMG A X W tg g) (go : Goes g) (hs : swapsWithSole [tg] e pos.line X.env = pure false) (hw : swappedStores [tg] e X.env = pure none) (h1 : (assignEach [tg] X.env).map (·.2) = [assign tg X.env]) :
    PMS A X W (.Assign [tg] e pos) (sAs f g) := by
  refine (ps_asg he hg hs hw h1).imp fun D σ H ⟨m, ρ, st, r, w, k⟩ => ⟨m, ρ, st, r, w, (SRun.sb k w).imp fun x st1 m1 H1 r1 e1 k1 u hu => ?_⟩
  exact ⟨m1, ρ, st1, x, r1, w.mono e1, hu, srun_nx (fun f ρ' st' z => go _ _ _ _ _ _ z) k1⟩
def sPr (i j : Nat) (f : DA) : DS := fun ρ st => sb ρ (f ρ st) fun xs st1 => match xs with | [v, w] => some (.nx, (ρ.set i (some v)).set j (some w), st1) | _ => none
theorem pms_par {i j : Nat} {x y : Str} {a b : Expr} {f : DA} {px py pt : Pos} {kt k2 pt2} (hc : X.calm = true) (hN : X.N.Nodup) (hi : X.N[i]? = some x) (hj : X.N[j]? = some y) (hij : i ≠ j)
    (hx : X.env.scope.names.lookup x = some .local) (hy : X.env.scope.names.lookup y = some .local) (ha : PMA A X W [a, b] f)
    (hw : swappedStores [.Tuple [.Name x px, .Name y py] kt pt] (.Tuple [a, b] k2 pt2) X.env = pure (some [x, y])) (hs : swapsWithSole [.Tuple [.Name x px, .Name y py] kt pt] (.Tuple [a, b] k2 pt2) pos.line X.env = pure false) :
    PMS A X W (.Assign [.Tuple [.Name x px, .Name y py] kt pt] (.Tuple [a, b] k2 pt2) pos) (sPr i j f) := by
  refine (ps_par hc hN hi hj hij hx hy ha hw hs).imp fun D σ H ⟨m, ρ, st, r, w, k⟩ => ⟨m, ρ, st, r, w, (SRun.sb k w).imp fun xs st1 m1 H1 r1 e1 k1 us hus => ?_⟩
  match xs, us, hus, k1 with
  | [v, w'], [u, z], .cons h1 (.cons h2 .nil), k1 => exact ⟨u, z, rfl, k1 m1 H1 _ .refl r1 (((w.mono e1).set h1).set h2)⟩
  | [], _, _, k1 => exact k1.elim
  | [_], _, _, k1 => exact k1.elim
  | _ :: _ :: _ :: _, _, _, k1 => exact k1.elim
def sAu (i : Nat) (f : DE) (g : MV → MV → Sto → R MV) : DS := fun ρ st => match ρ[i]? with
  | some (some x) => sb ρ (f ρ st) fun y st1 => sb ρ (g x y st1) fun z st2 => some (.nx, ρ.set i (some z), st2)
  | _ => none
theorem pms_aug {i : Nat} {x : Str} {e : Expr} {f : DE} {op : Operator} {g : MV → MV → Sto → R MV} {pos' : Pos} (hN : X.N.Nodup) (hi : X.N[i]? = some x) (hx : Loc X.env.scope x) (he : PM A X W e f) (ho : OpM A X W (inplaceOp op) g) (hf : X.fn x = true ∨ X.env.scope.names.lookup x = some .local) :
    PMS A X W (.AugAssign (.Name x pos') op e pos) (sAu i f g) := by
  obtain ⟨r2, h2, q2⟩ := ho
  refine (ps_aug hN hi hx he h2 hf).imp fun D σ H ⟨m, ρ, st, r, w, k⟩ => ?_
  unfold sAu at k
  split at k
  · rename_i y hy
    obtain ⟨u, hu, rv⟩ := w.at_ i y hy
    refine ⟨u, hu, m, ρ, st, r, w, (SRun.sb k w).imp fun z st1 m1 H1 r1 e1 k1 uz hz => ?_⟩
    refine q2 m1 st1 σ H1 y z u uz _ r1 (rv.mono e1) hz ((SRun.sb k1 (w.mono e1)).imp fun v st2 m2 H2 r2 e2 k2 uv hv => ?_)
    exact k2 m2 H2 _ .refl r2 ((w.mono (e1.trans e2)).set hv)
  · exact k.elim
def whileM (p : DB) (b : DS) : Nat → DS
  | 0, _, _ => none
  | n + 1, ρ, st => sb ρ (p ρ st) fun k st1 => if k then
      (match b ρ st1 with
        | some (.nx, ρ', st') => whileM p b n ρ' st'
        | some (.ct, ρ', st') => whileM p b n ρ' st'
        | some (.bk, ρ', st') => some (.nx, ρ', st')
        | r => r)
    else some (.nx, ρ, st1)
def fuelN : Nat := 2 ^ 250 * 2 ^ 250 * 2 ^ 250 * 2 ^ 250
def sWh (p : DB) (b : DS) : DS := whileM p b fuelN
theorem pms_while {t : Expr} {body : List Stmt} {p : DB} {b : DS} (hp : PassesOwn (model X.prog X.w) X.A X.env X.xe) (hc : PMT A X W t p) (hb : PMSs A X W body b) : PMS A X W (.While t body [] pos) (sWh p b) := by
  refine (ps_while hp hc hb).imp fun D σ H ⟨m, ρ, st, r, w, k⟩ => ?_
  refine ⟨fun n σ H => ∃ m ρ st, Rel (gc A X) m st H ∧ REnv (gc A X) m H ρ σ ∧ SRun (gc A X) W D m H (whileM p b n ρ st), ⟨_, m, ρ, st, r, w, k⟩, ?_⟩
  rintro n σ1 H1 ⟨m1, ρ1, st1, r1, w1, k1⟩
  cases n with
  | zero => exact k1.elim
  | succ n =>
    refine ⟨m1, ρ1, st1, r1, w1, (SRun.sb k1 w1).imp fun x st2 m2 H2 r2 e2 k2 => ?_⟩
    cases x with
    | false =>
      rw [if_neg Bool.false_ne_true]
      exact k2 m2 H2 σ1 .refl r2 (w1.mono e2)
    | true =>
      rw [if_pos rfl]
      simp only [if_true] at k2
      refine ⟨fun σ H => ∃ m ρ st, Rel (gc A X) m st H ∧ REnv (gc A X) m H ρ σ ∧ SRun (gc A X) W D m H (whileM p b n ρ st), fun σ' H' h => ⟨n, Nat.lt_succ_self n, h⟩, m2, ρ1, st2, r2, w1.mono e2, ?_⟩
      revert k2
      generalize b ρ1 st2 = rr
      intro k2
      match rr, k2 with
      | none, h => exact h
      | some (.nx, ρ', st'), h => exact fun m3 H3 s3 e3 r3 v3 => ⟨m3, ρ', st', r3, v3, SRun.mono (r := whileM p b n ρ' st') h e3⟩
      | some (.rt v, ρ', st'), h => exact h
      | some (.bk, ρ', st'), h => exact h
      | some (.ct, ρ', st'), h => exact fun m3 H3 s3 e3 r3 v3 => ⟨m3, ρ', st', r3, v3, SRun.mono (r := whileM p b n ρ' st') h e3⟩
      | some (.exc x, ρ', st'), h => exact h
end
end CS
namespace CS
open PySem PySem.Spec L2
inductive SK where | l | t
def skSq : SK → PySem.W.Frag → Hp → Addr → List V → Prop
  | .l, K, H, a, xs => SqL K H a xs
  | .t, K, H, a, xs => SqT K H a xs
def skObj : SK → Addr → Obj
  | .l, a => { cls := .type "list_iterator", data := .fields #[.ref a, .int 0 0] }
  | .t, a => { cls := .type "tuple_iterator", data := .fields #[.ref a, .int 0 0] }
def skIt : SK → Heap → Addr → Addr → Nat → Prop
  | .l, h, it, a, i => h.IsListIter it a i
  | .t, h, it, a, i => h.IsTupleIter it a i
def skAt : SK → Heap → Addr → Array Value → Prop
  | .l, h, a, its => h.IsList a its
  | .t, h, a, its => h.IsTuple a its
theorem sk_draws (k : SK) {prog : Program} {w : World} {A : Around} (hh : A.handled = none) (it a : Addr) (hne : a ≠ it) (its : Array Value) :
    Draws prog w A it [it, a] its.size (fun i v => its[i]? = some v) (fun i h => skIt k h it a i ∧ skAt k h a its) := by
  cases k
  · exact Draws.list hh it a hne its
  · exact Draws.tuple hh it a hne its
theorem sk_begins (k : SK) (a : Addr) (its : Array Value) : Begins (.ref a) (skObj k a) fun h => skAt k h a its := by
  cases k
  · exact begins_list a its
  · exact begins_tuple a its
theorem sk_start (k : SK) {h : Heap} {it a : Addr} (e : h.get? it = some (skObj k a)) : skIt k h it a 0 := by
  cases k
  · exact ⟨_, e, rfl, rfl⟩
  · exact ⟨_, e, rfl, rfl⟩
theorem skIt.obj {k : SK} {h : Heap} {it a : Addr} {i : Nat} (x : skIt k h it a i) : ∃ o, h.get? it = some o ∧ ∀ v, o.data ≠ .cell v := by
  cases k
  · obtain ⟨o, e, _, d⟩ := x; exact ⟨o, e, fun v z => by rw [d] at z; cases z⟩
  · obtain ⟨o, e, _, d⟩ := x; exact ⟨o, e, fun v z => by rw [d] at z; cases z⟩
theorem skIt.at' {k : SK} {h h' : Heap} {it a : Addr} {i : Nat} (x : skIt k h it a i) (e : ∀ o, h.get? it = some o → h'.get? it = some o) : skIt k h' it a i := by
  cases k
  · obtain ⟨o, q, r⟩ := x; exact ⟨o, e _ q, r⟩
  · obtain ⟨o, q, r⟩ := x; exact ⟨o, e _ q, r⟩
theorem sk_read {X : Cx} {pins : List (Addr × Obj)} {σ : L2.St} {H : Hp} {s : Shared} (I : Inv X pins σ H s) (k : SK) {a : Addr} {xs : List V} (h : skSq k X.K H a xs) :
    ∃ its : List Value, Vals xs its ∧ skAt k s.heap a its.toArray := by
  cases k
  · obtain ⟨its, r, p, _⟩ := I.list h; exact ⟨its, r, p.isList⟩
  · obtain ⟨its, r, p, _⟩ := I.tuple h; exact ⟨its, r, p⟩
theorem sk_inj {X : Cx} {pins : List (Addr × Obj)} {σ : L2.St} {H : Hp} {s : Shared} (I : Inv X pins σ H s) (k : SK) {a : Addr} {xs ys : List V} (h : skSq k X.K H a xs) (h' : skSq k X.K H a ys) : xs = ys := by
  cases k
  · exact I.list_inj h h'
  · exact I.tuple_inj h h'
theorem skAt.lt {k : SK} {h : Heap} {a : Addr} {its : Array Value} (x : skAt k h a its) : a < h.objs.size := by
  cases k
  · obtain ⟨o, e, _⟩ := x; exact Heap.lt_size e
  · obtain ⟨o, e, _⟩ := x; exact Heap.lt_size e
def ItE (k : SK) (K : PySem.W.Frag) (a : Addr) : It :=
  ⟨fun i H => ∃ (xs : List V) (x : V), skSq k K H a xs ∧ xs[i]? = some x,
   fun i H v H' => ∃ T x ob, v = .ref T ∧ H T = none ∧ Obj.dict ob = none ∧ H' = upd H T (.frz ob (.tup [.int (i : Nat), x])) ∧ ∀ xs, skSq k K H a xs → xs[i]? = some x,
   fun i H => ∃ xs : List V, skSq k K H a xs ∧ xs.length = i⟩
def tnE (k : SK) (a e it : Addr) (i : Nat) (h : Heap) : Prop := (∃ old, IsEnum h e it ((i : Nat) : Int) old) ∧ skIt k h it a i ∧ e ≠ it ∧ e ≠ a ∧ a ≠ it
theorem turnE {P : Program} {w : World} {K : PySem.W.Frag} {elts : List Expr} {kk : Nat} {tpos : Pos} (k : SK) (a e it : Addr) : Turn P w K (.Tuple elts kk tpos) (ItE k K a) [e, it] e (tnE k a e it) := by
  refine ⟨by simp, fun i h st b hb => ?_, fun i h h' st kp => ?_, ?_, ?_, ?_⟩
  · obtain ⟨⟨old, he⟩, hi, _⟩ := st
    rcases (show b = e ∨ b = it by simpa using hb) with z | z
    · subst z; exact ⟨_, he, fun v q => nomatch q⟩
    · subst z; exact hi.obj
  · obtain ⟨⟨old, he⟩, hi, hne⟩ := st
    exact ⟨⟨old, kp e (by simp) _ he⟩, hi.at' fun o q => kp it (by simp) o q, hne⟩
  · intro X hP hw hK hc i pins s σ H E I hf st hg
    subst hP hw hK
    obtain ⟨⟨old, he⟩, hit, h1, h2, h3⟩ := st
    obtain ⟨xs, x, hq, hx⟩ := hg
    obtain ⟨its, rv, p⟩ := sk_read I k hq
    obtain ⟨u, hu, ru⟩ := rv.get hx
    have el : e < s.heap.objs.size := Heap.lt_size he
    have il : it < s.heap.objs.size := by obtain ⟨o, q, _⟩ := hit.obj; exact Heap.lt_size q
    have D := sk_draws k (prog := X.prog) (w := X.w) (A := X.A.in1) (I.ok.hd hc) it a h3 its.toArray
    have hil : i < its.toArray.size := by have := (List.getElem?_eq_some_iff.mp hu).1; simpa using this
    refine wpAny_pyNext_enum_itemD D he ⟨hit, p⟩ hil h1 (by simp [h1, h2]) fun y h' tk hy ho hst hT hsz hk => ?_
    have ey : y = u := by
      rw [List.getElem?_toArray, hu] at hy
      exact (Option.some.inj hy).symm
    subst ey
    refine ⟨_, rfl, wpAny_letOwnedTupleGo_enum (s := { s with heap := h', toks := tk + 1 }) ho fun h'' he' sb => ?_⟩
    have hT2 := (sb.2 _ (Nat.ne_of_gt el)).trans hT
    have hin : ∀ b ∈ [e, it], b = e ∨ b = it := fun b hb => by simpa using hb
    obtain ⟨ob, hob, hcl, hdn, n9, hdt⟩ : ∃ ob : Obj, h''.get? s.heap.objs.size = some ob ∧ ob.cls = .type "tuple" ∧ ob.dict = none ∧ ∃ n, ob.data = .seq [.int i tk, y].toArray n := ⟨_, hT2, rfl, rfl, _, rfl⟩
    have new : ObjOk X.prog X.w (upd H s.heap.objs.size (.frz ob (.tup [.int (i : Nat), x]))) h'' s.heap.objs.size (.frz ob (.tup [.int (i : Nat), x])) :=
      ⟨hob, (by decide : 2 ≤ sizeLine), [.int i tk, y], .cons ⟨_, rfl⟩ (.cons ru .nil), ob, hob, hcl, n9, hdt⟩
    have I1 : Inv X pins σ (upd H s.heap.objs.size (.frz ob (.tup [.int (i : Nat), x]))) { s with heap := h'', toks := tk + 1 } :=
      I.turnedNew (ch := [e, it]) (fun b ob hb q => (sb.2 b fun z => hb (by simp [z])).trans (hk b ob (fun z => hb (by simp [z])) (fun z => hb (by simp [z])) q)) hf (Nat.le_refl _) new
    refine ⟨.ref s.heap.objs.size, _, I1, rfl, ⟨_, x, ob, rfl, I.hok.fresh (Nat.le_refl _), hdn, rfl, fun ys hy => by rw [sk_inj I k hy hq]; exact hx⟩, ⟨⟨y, ?_⟩, hst.1.at' fun o q => (sb.2 it (Ne.symm h1)).trans q, h1, h2, h3⟩, fun b hb => ?_⟩
    · rw [show ((i + 1 : Nat) : Int) = (i : Int) + 1 by omega]; exact he'
    · have hb' : b < s.heap.objs.size := by rcases hin b hb with z | z <;> rw [z] <;> assumption
      rw [upd_ne (Nat.ne_of_lt hb')]
      exact (hf b hb).1
  · intro X hP hw hK hc i pins s σ H E I hf st hg
    subst hP hw hK
    obtain ⟨⟨old, he⟩, hit, h1, h2, h3⟩ := st
    obtain ⟨xs, hq, hx⟩ := hg
    obtain ⟨its, rv, p⟩ := sk_read I k hq
    obtain ⟨f0, f1, f2, f3, f4, f5⟩ := hf it (by simp)
    have D := sk_draws k (prog := X.prog) (w := X.w) (A := X.A.in1) (I.ok.hd hc) it a h3 its.toArray
    have hn : its.toArray.size = i := by have := rv.length; simp; omega
    exact wpAny_pyNext_enum_endD D he (by rw [hn]; exact ⟨hit, p⟩) fun h' eb => ⟨rfl, I.turned (t' := s.toks) (fun b o hb q => eb b o hb q) f0 f1 f3 f4 f5⟩
  · exact fun A i s Q E st h => by obtain ⟨⟨_, he⟩, _⟩ := st; exact wpAny_pyIter_enum he h
def ItZ (k1 k2 : SK) (K : PySem.W.Frag) (a b : Addr) : It :=
  ⟨fun i H => ∃ (xs ys : List V) (x y : V), skSq k1 K H a xs ∧ skSq k2 K H b ys ∧ xs[i]? = some x ∧ ys[i]? = some y,
   fun i H v H' => ∃ T x y ob, v = .ref T ∧ H T = none ∧ Obj.dict ob = none ∧ H' = upd H T (.frz ob (.tup [x, y])) ∧ (∀ xs, skSq k1 K H a xs → xs[i]? = some x) ∧ ∀ ys, skSq k2 K H b ys → ys[i]? = some y,
   fun i H => ∃ xs ys : List V, skSq k1 K H a xs ∧ skSq k2 K H b ys ∧ i = min xs.length ys.length⟩
structure Apart (z TI TO i1 i2 a b : Addr) : Prop where
  sep : ZipSep2 z TI TO i1 i2 [i1, a] [i2, b]
  a1 : a ≠ i1
  b2 : b ≠ i2
def tnZ (k1 k2 : SK) (a b z TI TO i1 i2 : Addr) (i : Nat) (h : Heap) : Prop :=
  IsZip h z TI TO .none ∧ IsTupOf2 h TI (.ref i1) (.ref i2) ∧ (∃ x y, IsTupOf2 h TO x y) ∧ skIt k1 h i1 a i ∧ skIt k2 h i2 b i
theorem turnZ {P : Program} {w : World} {K : PySem.W.Frag} {elts : List Expr} {kk : Nat} {tpos : Pos} (k1 k2 : SK) {a b z TI TO i1 i2 : Addr} (ap : Apart z TI TO i1 i2 a b) :
    Turn P w K (.Tuple elts kk tpos) (ItZ k1 k2 K a b) [z, TI, TO, i1, i2] z (tnZ k1 k2 a b z TI TO i1 i2) := by
  have inn : ∀ c ∈ [z, TI, TO, i1, i2], c = z ∨ c = TI ∨ c = TO ∨ c = i1 ∨ c = i2 := fun c hc => by simpa using hc
  refine ⟨by simp, fun i h st c hc => ?_, fun i h h' st kp => ?_, ?_, ?_, ?_⟩
  · obtain ⟨hz, hTI, ⟨x, y, hTO⟩, q1, q2⟩ := st
    rcases inn c hc with q | q | q | q | q <;> subst q
    · exact ⟨_, hz, fun v q => nomatch q⟩
    · exact ⟨_, hTI, fun v q => nomatch q⟩
    · exact ⟨_, hTO, fun v q => nomatch q⟩
    · exact q1.obj
    · exact q2.obj
  · obtain ⟨hz, hTI, ⟨x, y, hTO⟩, q1, q2⟩ := st
    exact ⟨kp z (by simp) _ hz, kp TI (by simp) _ hTI, ⟨x, y, kp TO (by simp) _ hTO⟩, q1.at' fun o q => kp i1 (by simp) o q, q2.at' fun o q => kp i2 (by simp) o q⟩
  · intro X hP hw hK hc i pins s σ H E I hf st hg
    subst hP hw hK
    obtain ⟨hz, hTI, ⟨x0, y0, hTO⟩, q1, q2⟩ := st
    obtain ⟨xs, ys, x, y, hqx, hqy, hx, hy⟩ := hg
    obtain ⟨its, rv, p⟩ := sk_read I k1 hqx
    obtain ⟨its2, rv2, p2⟩ := sk_read I k2 hqy
    obtain ⟨u, hu, ru⟩ := rv.get hx
    obtain ⟨u2, hu2, ru2⟩ := rv2.get hy
    have zl : z < s.heap.objs.size := Heap.lt_size hz
    have D1 := sk_draws k1 (prog := X.prog) (w := X.w) (A := X.A.in1) (I.ok.hd hc) i1 a ap.a1 its.toArray
    have D2 := sk_draws k2 (prog := X.prog) (w := X.w) (A := X.A.in1) (I.ok.hd hc) i2 b ap.b2 its2.toArray
    have l1 : i < its.toArray.size := by have := (List.getElem?_eq_some_iff.mp hu).1; simpa using this
    have l2 : i < its2.toArray.size := by have := (List.getElem?_eq_some_iff.mp hu2).1; simpa using this
    refine wpAny_pyNext_zipD2_item ap.sep D1 D2 hz hTI hTO ⟨q1, p⟩ ⟨q2, p2⟩ l1 l2 fun v1 v2 h' tk hv1 hv2 z' TO' s1 s2 hT hsz hk => ?_
    have e1 : v1 = u := by rw [List.getElem?_toArray, hu] at hv1; exact (Option.some.inj hv1).symm
    have e2 : v2 = u2 := by rw [List.getElem?_toArray, hu2] at hv2; exact (Option.some.inj hv2).symm
    subst e1 e2
    refine ⟨_, rfl, wpAny_letOwnedTupleGo_zip (s := { s with heap := h', toks := tk }) z' fun h'' z'' sb => ?_⟩
    have hT2 := (sb.2 _ (Nat.ne_of_gt zl)).trans hT
    obtain ⟨ob, hob, hcl, hdn, n9, hdt⟩ : ∃ ob : Obj, h''.get? s.heap.objs.size = some ob ∧ ob.cls = .type "tuple" ∧ ob.dict = none ∧ ∃ n, ob.data = .seq [v1, v2].toArray n := ⟨_, hT2, rfl, rfl, _, rfl⟩
    have new : ObjOk X.prog X.w (upd H s.heap.objs.size (.frz ob (.tup [x, y]))) h'' s.heap.objs.size (.frz ob (.tup [x, y])) :=
      ⟨hob, (by decide : 2 ≤ sizeLine), [v1, v2], .cons ru (.cons ru2 .nil), ob, hob, hcl, n9, hdt⟩
    have ne5 : ∀ c, c ∉ [z, TI, TO, i1, i2] → c ≠ z ∧ c ≠ TI ∧ c ≠ TO ∧ c ≠ i1 ∧ c ≠ i2 := fun c hc => by simpa using hc
    have I1 : Inv X pins σ (upd H s.heap.objs.size (.frz ob (.tup [x, y]))) { s with heap := h'', toks := tk } :=
      I.turnedNew (ch := [z, TI, TO, i1, i2]) (fun c o hb q => (sb.2 c (ne5 c hb).1).trans (hk c o (ne5 c hb).1 (ne5 c hb).2.2.1 (ne5 c hb).2.2.2.1 (ne5 c hb).2.2.2.2 q)) hf (Nat.le_refl _) new
    refine ⟨.ref s.heap.objs.size, _, I1, rfl, ⟨_, x, y, ob, rfl, I.hok.fresh (Nat.le_refl _), hdn, rfl, fun l hl => by rw [sk_inj I k1 hl hqx]; exact hx, fun l hl => by rw [sk_inj I k2 hl hqy]; exact hy⟩,
      ⟨z'', (sb.2 _ ap.sep.TIz).trans (hk _ _ ap.sep.TIz ap.sep.TITO ap.sep.TIi1 ap.sep.TIi2 hTI), ⟨v1, v2, (sb.2 _ ap.sep.TOz).trans TO'⟩, s1.1.at' fun o q => (sb.2 _ (Ne.symm ap.sep.zi1)).trans q, s2.1.at' fun o q => (sb.2 _ (Ne.symm ap.sep.zi2)).trans q⟩, fun c hcm => ?_⟩
    have hlt : c < s.heap.objs.size := by
      rcases inn c hcm with q | q | q | q | q <;> rw [q]
      · exact zl
      · exact Heap.lt_size hTI
      · exact Heap.lt_size hTO
      · obtain ⟨_, e, _⟩ := q1.obj; exact Heap.lt_size e
      · obtain ⟨_, e, _⟩ := q2.obj; exact Heap.lt_size e
    rw [upd_ne (Nat.ne_of_lt hlt)]
    exact (hf c hcm).1
  · intro X hP hw hK hc i pins s σ H E I hf st hg
    subst hP hw hK
    obtain ⟨hz, hTI, ⟨x0, y0, hTO⟩, q1, q2⟩ := st
    obtain ⟨xs, ys, hqx, hqy, hend⟩ := hg
    obtain ⟨its, rv, p⟩ := sk_read I k1 hqx
    obtain ⟨its2, rv2, p2⟩ := sk_read I k2 hqy
    have D1 := sk_draws k1 (prog := X.prog) (w := X.w) (A := X.A.in1) (I.ok.hd hc) i1 a ap.a1 its.toArray
    have D2 := sk_draws k2 (prog := X.prog) (w := X.w) (A := X.A.in1) (I.ok.hd hc) i2 b ap.b2 its2.toArray
    have l1 := rv.length
    have l2 := rv2.length
    have n1 : its.toArray.size = xs.length := by simp [l1]
    have n2 : its2.toArray.size = ys.length := by simp [l2]
    have ne5 : ∀ c, c ∉ [z, TI, TO, i1, i2] → c ≠ z ∧ c ≠ TI ∧ c ≠ TO ∧ c ≠ i1 ∧ c ≠ i2 := fun c hc => by simpa using hc
    exact wpAny_pyNext_zipD2_end ap.sep D1 D2 hz hTI hTO ⟨q1, p⟩ ⟨q2, p2⟩ (by omega) (by omega) (by omega) fun h' tk hk => ⟨rfl, I.turnedL (t' := tk) (ch := [z, TI, TO, i1, i2]) (fun c o hb q =>
      hk c o (ne5 c hb).1 (ne5 c hb).2.2.1 (ne5 c hb).2.2.2.1 (ne5 c hb).2.2.2.2 q) hf⟩
  · exact fun A i s Q E st h => wpAny_pyIter_zip st.1 h
open AutoSeq1 in
theorem en_newT (a : Addr) (its : Array Value) (n : Nat) (dct : Option Addr) (sl : Array (Option Value)) :
    Meets (Builtin.«enumerate.__new__» ⟨[.type "enumerate", .ref a], []⟩) (fun _ K s => s.heap.get? a = some { cls := .type "tuple", dict := dct, data := .seq its n, slots := sl } ∧
      K (.ok (.ret (.ref (s.heap.push (skObj .t a)).objs.size)))
        { s with heap := (s.heap.push (skObj .t a)).push { cls := .type "enumerate", data := .fields #[.none, .bool false, .ref s.heap.objs.size, rawInt 0, .none, .none] } }) := by
  refine Meets.of_wp fun prog w A K s h => ?_
  obtain ⟨hp, gg, dd, tk, os⟩ := s
  obtain ⟨hl, h⟩ := h
  have hsub := sub_enumerate
  have hT : Heap.IsTuple (Shared.heap ⟨hp, gg, dd, tk, os⟩) a its := ⟨_, hl, rfl, n, rfl⟩
  wp_walk using wpAny_loadPart' hl
  refine wpAny_stack_any fun sk => wpAny_pure ?_
  split
  · rename_i c _ _ _ _ _
    cases (c == Value.type "enumerate") <;>
    · wp_walk using wpAny_loadPart' hl, wpAny_pyIter_tuple hT
      exact ⟨_, rfl, h⟩
  · wp_walk using wpAny_loadPart' hl, wpAny_pyIter_tuple hT
    exact ⟨_, rfl, h⟩
theorem call_enum_sk {prog : Program} {w : World} {A : Around} {E : Value → Shared → Prop} {s : Shared} (k : SK) {a : Addr} {its : Array Value} {Q : Value → Shared → Prop} (hL : skAt k s.heap a its)
    (h : ∀ h', IsEnum h' (s.heap.objs.size + 1) s.heap.objs.size ((0 : Nat) : Int) .none → skIt k h' s.heap.objs.size a 0 → h'.objs.size = s.heap.objs.size + 2 →
      (∀ b o, s.heap.get? b = some o → h'.get? b = some o) → Q (.ref (s.heap.objs.size + 1)) { s with heap := h' }) :
    wpAny (model prog w) A (call (.type "enumerate") [.ref a]) Q E s := by
  cases k with
  | l => exact call_enumerate_list hL fun h' e i z kk => h h' e i z kk
  | t =>
    obtain ⟨⟨c, dct, dt, sl⟩, hl, hc, n, hd⟩ := hL
    replace hc : c = .type "tuple" := hc
    replace hd : dt = .seq its n := hd
    subst hc hd
    refine callType_new F.called_enumerate (by decide) (F.typeCall_enumerate_1 _) (F.newCall_enumerate_1 _) (fun obj => F.args_object_init_2 obj _) F.entry_enumerate_new (en_newT a its n dct sl) ⟨hl, ?_⟩
    have sz : (s.heap.push (skObj .t a)).objs.size = s.heap.objs.size + 1 := Heap.size_push ..
    have top := Heap.get?_push_size (s.heap.push (skObj .t a)) (o := { cls := .type "enumerate", data := .fields #[.none, .bool false, .ref s.heap.objs.size, rawInt 0, .none, .none] }) rfl
    show _ ∧ _
    rw [sz] at top ⊢
    exact ⟨⟨_, top, rfl⟩, h _ top ⟨_, Heap.get?_push_of_some _ (Heap.get?_push_size _ rfl), rfl, rfl⟩ (by rw [Heap.size_push, sz]) fun b o x => Heap.get?_push_of_some _ (Heap.get?_push_of_some _ x)⟩
section
variable {X : Cx} {tg : Expr}
def iSeq (K : PySem.W.Frag) (tl : TE) : TI := fun σ H R => tl σ H fun x H1 => ∃ a, x = .ref a ∧ (((∃ xs, SqL K H1 a xs) ∧ R (Itl K a) H1) ∨ ((∃ xs, SqT K H1 a xs) ∧ R (Itt K a) H1))
theorem pi_seq {e : Expr} {tl : TE} (hl : PE X e tl) : PI X tg e (iSeq X.K tl) := by
  refine ⟨fun pins s σ H R I h => ?_⟩
  refine thn (hl.run pins s σ H _ I h) fun v s1 ⟨x, H1, I1, r1, q1⟩ => ?_
  obtain ⟨a, ex, q⟩ := q1
  subst ex
  cases r1
  have fr : ∀ b ∈ [s1.heap.objs.size], FpOk X pins H1 b := fun b hb => by
    have z : b = s1.heap.objs.size := by simpa using hb
    subst z
    exact I1.fpOk (Nat.le_refl _) (I1.hok.fresh (Nat.le_refl _))
  rcases q with ⟨⟨xs, hq⟩, q⟩ | ⟨⟨xs, hq⟩, q⟩
  · obtain ⟨its, rv, p, _⟩ := I1.list hq
    refine wpAny_pyIter_list p.isList ⟨s1.heap.objs.size, [s1.heap.objs.size], _, _, H1, rfl, I1.kept (t' := s1.toks) fun b o z => Heap.get?_push_of_some _ z, turn_list a _, ⟨_, Heap.get?_push_size _ rfl, rfl, rfl⟩, fr, q⟩
  · obtain ⟨its, rv, p, _⟩ := I1.tuple hq
    refine wpAny_pyIter_tuple (show s1.heap.IsTuple a its.toArray from p) ⟨s1.heap.objs.size, [s1.heap.objs.size], _, _, H1, rfl, I1.kept (t' := s1.toks) fun b o z => Heap.get?_push_of_some _ z, turn_tuple a _, ⟨_, Heap.get?_push_size _ rfl, rfl, rfl⟩, fr, q⟩
def iEnA (K : PySem.W.Frag) (ta : TA) : TI := fun σ H R => ta σ H fun vs H1 => ∃ a xs k, vs = [.ref a] ∧ skSq k K H1 a xs ∧ R (ItE k K a) H1
theorem pi_enA {e : Expr} {ta : TA} {p pos tpos : Pos} {elts : List Expr} {kk : Nat} (hg : Gl X "enumerate") (hm : X.mg "enumerate" = none) (ha : PA X [e] ta) (hs : starEach [e] X.env = [(false, eval e X.env)]) :
    PI X (.Tuple elts kk tpos) (.Call (.Name "enumerate" p) [e] [] pos) (iEnA X.K ta) := by
  refine ⟨fun pins s σ H R I h => ?_⟩
  refine PyProof.Rows.Call_ (ld_blt I hg hm PyProof.Rows.boot_enumerate (PyProof.Rows.callWith_type1 (thn (ha.run pos pins s σ H _ I h) fun us s1 ⟨vs, H1, I1, r1, q1⟩ => ?_) hs rfl))
  obtain ⟨a, xs, k, ex, hq, q⟩ := q1
  subst ex
  obtain ⟨u, rfl, ru⟩ := vals1 r1
  cases ru
  obtain ⟨its, rv, pa⟩ := sk_read I1 k hq
  have al := pa.lt
  refine call_enum_sk k pa fun h' he hi hsz hk => wpAny_pyIter_enum he ?_
  have hle : ∀ b ∈ [s1.heap.objs.size + 1, s1.heap.objs.size], s1.heap.objs.size ≤ b := fun b hb => by
    rcases (show b = s1.heap.objs.size + 1 ∨ b = s1.heap.objs.size by simpa using hb) with z | z <;> omega
  refine ⟨s1.heap.objs.size + 1, [s1.heap.objs.size + 1, s1.heap.objs.size], _, _, H1, rfl, I1.kept (t' := s1.toks) hk, turnE k a _ _, ⟨⟨_, he⟩, hi, Nat.succ_ne_self _, Nat.ne_of_gt (Nat.lt_succ_of_lt al), Nat.ne_of_lt al⟩, fun b hb => I1.fpOk (hle b hb) (I1.hok.fresh (hle b hb)), q⟩
def iZpA (K : PySem.W.Frag) (ta : TA) : TI := fun σ H R => ta σ H fun vs H1 => ∃ a b xs ys k1 k2, vs = [.ref a, .ref b] ∧ skSq k1 K H1 a xs ∧ skSq k2 K H1 b ys ∧ R (ItZ k1 k2 K a b) H1
theorem pi_zpA {e e2 : Expr} {ta : TA} {p pos tpos : Pos} {elts : List Expr} {kk : Nat} (hg : Gl X "zip") (hm : X.mg "zip" = none) (ha : PA X [e, e2] ta) (hs : starEach [e, e2] X.env = (false, eval e X.env) :: starEach [e2] X.env) (hpl : (backTo pos (starEach [e2] X.env)).any (·.1) = false) :
    PI X (.Tuple elts kk tpos) (.Call (.Name "zip" p) [e, e2] [] pos) (iZpA X.K ta) := by
  refine ⟨fun pins s σ H R I h => ?_⟩
  refine PyProof.Rows.Call_ (ld_blt I hg hm PyProof.Rows.boot_zip (PyProof.Rows.callWith_type1 (thn (ha.run pos pins s σ H _ I h) fun us s1 ⟨vs, H1, I1, r1, q1⟩ => ?_) hs hpl))
  obtain ⟨a, b, xs, ys, k1, k2, ex, hq, hq2, q⟩ := q1
  subst ex
  obtain ⟨u, v, rfl, ru, rv⟩ := vals2 r1
  cases ru
  cases rv
  obtain ⟨its, ra, pa⟩ := sk_read I1 k1 hq
  obtain ⟨its2, rb, pb⟩ := sk_read I1 k2 hq2
  have al := pa.lt
  have bl := pb.lt
  refine zip_begins2 (sk_begins k1 a its.toArray) (sk_begins k2 b its2.toArray) pa pb fun h' hz hTI hTO h1 h2 hsz hk => wpAny_pyIter_zip hz ?_
  have ap : Apart (s1.heap.objs.size + 4) (s1.heap.objs.size + 2) (s1.heap.objs.size + 3) s1.heap.objs.size (s1.heap.objs.size + 1) a b :=
    ⟨zip_sep2 (fp1 := [a]) (fp2 := [b]) (fun c hc => by rw [List.mem_singleton] at hc; rw [hc]; exact al) (fun c hc => by rw [List.mem_singleton] at hc; rw [hc]; exact bl), Nat.ne_of_lt al, Nat.ne_of_lt (Nat.lt_succ_of_lt bl)⟩
  have hle : ∀ c ∈ [s1.heap.objs.size + 4, s1.heap.objs.size + 2, s1.heap.objs.size + 3, s1.heap.objs.size, s1.heap.objs.size + 1], s1.heap.objs.size ≤ c := fun c hc => by
    rcases (show c = s1.heap.objs.size + 4 ∨ c = s1.heap.objs.size + 2 ∨ c = s1.heap.objs.size + 3 ∨ c = s1.heap.objs.size ∨ c = s1.heap.objs.size + 1 by simpa using hc) with z | z | z | z | z <;> omega
  exact ⟨_, _, _, _, H1, rfl, I1.kept (t' := s1.toks) hk, turnZ k1 k2 ap, ⟨hz, hTI, ⟨_, _, hTO⟩, sk_start k1 h1, sk_start k2 h2⟩, fun c hc => I1.fpOk (hle c hc) (I1.hok.fresh (hle c hc)), q⟩
end
end CS
namespace CS
open PySem PySem.Spec L2
structure Gr (c : GC) (m : List Addr) (H : Hp) (m' : List Addr) (H' : Hp) : Prop where
  pre : ∃ t, m' = m ++ t
  tup : ∀ b xs, SqD c.K H b xs → SqD c.K H' b xs
mutual
theorem RV.gr {c : GC} {m m' : List Addr} {H H' : Hp} (e : Gr c m H m' H') : ∀ {x : MV} {v : V}, RV c m H x v → RV c m' H' x v
  | _, _, .non => .non
  | _, _, .bl b => .bl b
  | _, _, .int i => .int i
  | _, _, .str x => .str x
  | _, _, .tup h r => .tup (e.tup _ _ h) (RVs.gr e r)
  | _, _, .ref h => .ref (by
      obtain ⟨t, rfl⟩ := e.pre
      rw [List.getElem?_append_left (List.getElem?_eq_some_iff.mp h).1]
      exact h)
  | _, _, .fn h => .fn h
  | _, _, .cl h => .cl h
  | _, _, .ty n => .ty n
theorem RVs.gr {c : GC} {m m' : List Addr} {H H' : Hp} (e : Gr c m H m' H') : ∀ {xs : List MV} {vs : List V}, RVs c m H xs vs → RVs c m' H' xs vs
  | _, _, .nil => .nil
  | _, _, .cons h r => .cons (RV.gr e h) (RVs.gr e r)
end
theorem Ext.toGr {c : GC} {m m' : List Addr} {H H' : Hp} (e : Ext c m H m' H') : Gr c m H m' H' := ⟨e.pre, e.tup⟩
inductive IS where | l (j n : Nat) | t (xs : List MV)
inductive IM where | sq (s : IS) | rng (lo : Int) (n : Nat) | en (s : IS) | zp (s s' : IS)
def IS.len : IS → Nat
  | .l _ n => n
  | .t xs => xs.length
def IS.get : IS → Nat → Sto → Option MV
  | .l j n, k, st => match listOf st j with | some xs => if xs.length = n then xs[k]? else none | none => none
  | .t xs, k, _ => xs[k]?
def IS.fin : IS → Sto → Bool
  | .l j n, st => match listOf st j with | some xs => decide (xs.length = n) | none => false
  | .t _, _ => true
def IM.cnt : IM → Nat
  | .sq s => s.len
  | .rng _ n => n
  | .en s => s.len
  | .zp s s' => min s.len s'.len
def IM.get : IM → Nat → Sto → Option MV
  | .sq s, k, st => s.get k st
  | .rng lo n, k, _ => if k < n then some (.int (lo + k)) else none
  | .en s, k, st => (s.get k st).map fun x => .tup [.int k, x]
  | .zp s s', k, st => match s.get k st, s'.get k st with | some x, some y => some (.tup [x, y]) | _, _ => none
def IM.fin : IM → Sto → Bool
  | .sq s, st => s.fin st
  | .rng _ _, _ => true
  | .en s, st => s.fin st
  | .zp s s', st => s.fin st && s'.fin st
def IS.sk : IS → SK
  | .l _ _ => .l
  | .t _ => .t
def IS.at (c : GC) (m : List Addr) (H : Hp) (a : Addr) : IS → Prop
  | .l j _ => m[j]? = some a
  | .t xs => ∃ vs, SqD c.K H a vs ∧ RVs c m H xs vs
section
variable {c : GC} {m m' : List Addr} {st : Sto} {H H' : Hp} {a : Addr} {s : IS}
theorem IS.at.mono (h : s.at c m H a) (e : Ext c m H m' H') : s.at c m' H' a := by
  cases s with
  | l j n => exact e.at h
  | t xs => obtain ⟨vs, h1, h2⟩ := h; exact ⟨vs, e.tup _ _ h1, h2.mono e⟩
theorem IS.at.gr (h : s.at c m H a) (e : Gr c m H m' H') : s.at c m' H' a := by
  cases s with
  | l j n =>
    obtain ⟨t, rfl⟩ := e.pre
    show (m ++ t)[j]? = some a
    rw [List.getElem?_append_left (List.getElem?_eq_some_iff.mp h).1]
    exact h
  | t xs => obtain ⟨vs, h1, h2⟩ := h; exact ⟨vs, e.tup _ _ h1, h2.gr e⟩
theorem IS.at.get (h : s.at c m H a) (r : Rel c m st H) {k : Nat} {x : MV} (g : s.get k st = some x) : ∃ vs u, skSq s.sk c.K H a vs ∧ vs[k]? = some u ∧ RV c m H x u := by
  cases s with
  | l j n =>
    simp only [IS.get] at g
    cases q : listOf st j with
    | none => simp only [q] at g; cases g
    | some xs =>
      simp only [q] at g
      split at g
      · obtain ⟨vs, h1, h2⟩ := r.list q h
        obtain ⟨u, h3, h4⟩ := h2.get' g
        exact ⟨vs, u, h1, h3, h4⟩
      · cases g
  | t xs =>
    obtain ⟨vs, h1, h2⟩ := h
    obtain ⟨u, h3, h4⟩ := h2.get' g
    exact ⟨vs, u, h1.toT, h3, h4⟩
theorem IS.at.fin (h : s.at c m H a) (r : Rel c m st H) (g : s.fin st = true) : ∃ vs, skSq s.sk c.K H a vs ∧ vs.length = s.len := by
  cases s with
  | l j n =>
    simp only [IS.fin] at g
    cases q : listOf st j with
    | none => simp only [q] at g; cases g
    | some xs =>
      simp only [q] at g
      obtain ⟨vs, h1, h2⟩ := r.list q h
      exact ⟨vs, h1, by rw [← h2.length]; exact of_decide_eq_true g⟩
  | t xs =>
    obtain ⟨vs, h1, h2⟩ := h
    exact ⟨vs, h1.toT, h2.length.symm⟩
structure ItOk (c : GC) (it : IM) (J : It) (m0 : List Addr) (H0 : Hp) : Prop where
  go : ∀ (k : Nat) (m : List Addr) (st : Sto) (H : Hp) (x : MV), Gr c m0 H0 m H → Rel c m st H → it.get k st = some x → J.go k H ∧ ∀ u H', J.yld k H u H' → Ext c m H m H' ∧ Rel c m st H' ∧ RV c m H' x u
  stop : ∀ (m : List Addr) (st : Sto) (H : Hp), Gr c m0 H0 m H → Rel c m st H → it.fin st = true → J.stop it.cnt H
def seqIt (K : PySem.W.Frag) (a : Addr) : SK → It
  | .l => Itl K a
  | .t => Itt K a
theorem itOk_sq (h : s.at c m H a) : ItOk c (.sq s) (seqIt c.K a s.sk) m H := by
  refine ⟨fun k m1 st H1 x e r g => ?_, fun m1 st H1 e r g => ?_⟩
  · obtain ⟨vs, u, h1, h2, h3⟩ := (h.gr e).get r g
    cases hs : s.sk with
    | l =>
      rw [hs] at h1
      refine ⟨⟨vs, u, h1, h2⟩, fun v H' y => ?_⟩
      obtain ⟨rfl, y⟩ := y
      have := y vs h1
      rw [h2] at this
      cases this
      exact ⟨.refl, r, h3⟩
    | t =>
      rw [hs] at h1
      refine ⟨⟨vs, u, h1, h2⟩, fun v H' y => ?_⟩
      obtain ⟨rfl, y⟩ := y
      have := y vs h1
      rw [h2] at this
      cases this
      exact ⟨.refl, r, h3⟩
  · obtain ⟨vs, h1, h2⟩ := (h.gr e).fin r g
    cases hs : s.sk with
    | l => rw [hs] at h1; exact ⟨vs, h1, Nat.le_of_eq h2⟩
    | t => rw [hs] at h1; exact ⟨vs, h1, Nat.le_of_eq h2⟩
theorem itOk_rng {lo : Int} {n : Nat} : ItOk c (.rng lo n) (Itr lo n) m H := by
  refine ⟨fun k m1 st H1 x e r g => ?_, fun m1 st H1 e r g => Nat.le_refl _⟩
  simp only [IM.get] at g
  split at g
  · rename_i hk
    cases g
    refine ⟨hk, fun u H' y => ?_⟩
    obtain ⟨rfl, rfl⟩ := y
    exact ⟨.refl, r, .int _⟩
  · cases g
theorem pair_new {x y : MV} {u v : V} (r : Rel c m st H) (h1 : RV c m H x u) (h2 : RV c m H y v) {T : Addr} {ob : Obj} (hT : H T = none) (hd : ob.dict = none) : Ext c m H m (upd H T (.frz ob (.tup [u, v]))) ∧ Rel c m st (upd H T (.frz ob (.tup [u, v]))) ∧ RV c m (upd H T (.frz ob (.tup [u, v]))) (.tup [x, y]) (.ref T) :=
  ⟨ext_new hT, r.same (upd_keeps hT), .tup (.inl ⟨ob, upd_same, hd⟩) (.cons (h1.mono (ext_new hT)) (.cons (h2.mono (ext_new hT)) .nil))⟩
theorem itOk_en (h : s.at c m H a) : ItOk c (.en s) (ItE s.sk c.K a) m H := by
  refine ⟨fun k m1 st H1 x e r g => ?_, fun m1 st H1 e r g => ?_⟩
  · simp only [IM.get] at g
    cases q : s.get k st with
    | none => rw [q] at g; cases g
    | some y =>
      rw [q] at g
      cases g
      obtain ⟨vs, u, h1, h2, h3⟩ := (h.gr e).get r q
      refine ⟨⟨vs, u, h1, h2⟩, fun v H' z => ?_⟩
      obtain ⟨T, w, ob, rfl, hT, hd, rfl, z⟩ := z
      have := z vs h1
      rw [h2] at this
      cases this
      exact pair_new r (.int _) h3 hT hd
  · obtain ⟨vs, h1, h2⟩ := (h.gr e).fin r g
    exact ⟨vs, h1, h2⟩
theorem itOk_zp {b : Addr} {s' : IS} (h : s.at c m H a) (h' : s'.at c m H b) : ItOk c (.zp s s') (ItZ s.sk s'.sk c.K a b) m H := by
  refine ⟨fun k m1 st H1 x e r g => ?_, fun m1 st H1 e r g => ?_⟩
  · simp only [IM.get] at g
    split at g
    · rename_i y y' q q'
      cases g
      obtain ⟨vs, u, h1, h2, h3⟩ := (h.gr e).get r q
      obtain ⟨vs', u', h1', h2', h3'⟩ := (h'.gr e).get r q'
      refine ⟨⟨vs, vs', u, u', h1, h1', h2, h2'⟩, fun v H' z => ?_⟩
      obtain ⟨T, w, w', ob, rfl, hT, hd, rfl, z, z'⟩ := z
      have e1 := z vs h1
      have e2 := z' vs' h1'
      rw [h2] at e1
      rw [h2'] at e2
      cases e1
      cases e2
      exact pair_new r h3 h3' hT hd
    · cases g
  · simp only [IM.fin] at g
    rw [Bool.and_eq_true] at g
    obtain ⟨vs, h1, h2⟩ := (h.gr e).fin r g.1
    obtain ⟨vs', h1', h2'⟩ := (h'.gr e).fin r g.2
    exact ⟨vs, vs', h1, h1', by rw [h2, h2']; rfl⟩
end
abbrev DI := MEnv → Sto → R IM
def tMI (c : GC) (W : WX) (f : DI) : TI := fun σ H Q => ∃ m ρ st, Rel c m st H ∧ REnv c m H ρ σ ∧ Run c W σ m H (f ρ st) (fun it _ m' H' => ∀ J, ItOk c it J m' H' → Q J H')
theorem _root_.L2.PI.imp {X : Cx} {tg e : Expr} {t t' : TI} (h : PI X tg e t) (q : ∀ σ H Q, t' σ H Q → t σ H Q) : PI X tg e t' := ⟨fun pins s σ H Q I w => h.run pins s σ H Q I (q _ _ _ w)⟩
def isOf (x : MV) (st : Sto) : Option IS :=
  match x with
  | .tup xs => some (.t xs)
  | .ref j => (listOf st j).map fun xs => .l j xs.length
  | _ => none
theorem isOf_ok {c : GC} {m : List Addr} {st : Sto} {H : Hp} {x : MV} {u : V} {s : IS} (r : Rel c m st H) (h : RV c m H x u) (e : isOf x st = some s) : ∃ a vs, u = .ref a ∧ s.at c m H a ∧ skSq s.sk c.K H a vs := by
  unfold isOf at e
  split at e
  · cases e
    cases h with
    | @tup a xs vs hs hv => exact ⟨a, vs, rfl, ⟨vs, hs, hv⟩, hs.toT⟩
  · rename_i j
    cases h with
    | @ref i a hi =>
    cases q : listOf st j with
    | none => rw [q] at e; cases e
    | some xs =>
      rw [q] at e
      cases e
      obtain ⟨vs, h1, h2⟩ := r.list q hi
      exact ⟨a, vs, rfl, hi, h1⟩
  · cases e
section
variable {A : AD} {X : Cx} {W : WX} {tg : Expr} {pos : Pos}
abbrev PMI (A : AD) (X : Cx) (W : WX) (tg e : Expr) (f : DI) : Prop := PI X tg e (tMI (gc A X) W f)
def iSq (f : DE) : DI := fun ρ st => bnd (f ρ st) fun x st1 => match isOf x st1 with | some s => ret (.sq s) st1 | none => none
theorem pmi_seq {e : Expr} {f : DE} (h : PM A X W e f) : PMI A X W tg e (iSq f) := by
  refine (pi_seq h).imp fun σ H Q ⟨m, ρ, st, r, v, k⟩ => ?_
  refine tM.thenG r v k fun x u st1 m1 H1 r1 e1 v1 hu k1 => ?_
  cases q : isOf x st1 with
  | none => simp only [q] at k1; exact k1.elim
  | some s =>
    simp only [q] at k1
    obtain ⟨a, vs, rfl, h1, h2⟩ := isOf_ok r1 hu q
    have z := Run.ok k1 .refl r1 _ (itOk_sq h1)
    refine ⟨a, rfl, ?_⟩
    cases hs : s.sk with
    | l => rw [hs] at z h2; exact .inl ⟨⟨vs, h2⟩, z⟩
    | t => rw [hs] at z h2; exact .inr ⟨⟨vs, h2⟩, z⟩
structure InR (j : Int) : Prop where
  lo : -(2 ^ 62) ≤ j
  hi : j < 2 ^ 62
theorem inR_iff {j : Int} : InR j ↔ -(2 ^ 62) ≤ j ∧ j < 2 ^ 62 := ⟨fun h => ⟨h.lo, h.hi⟩, fun h => ⟨h.1, h.2⟩⟩
noncomputable instance (j : Int) : Decidable (InR j) := Classical.propDecidable _
noncomputable def iR1 (f : DA) : DI := fun ρ st => bnd (f ρ st) fun xs st1 => match xs with
  | [.int j] => if InR j then ret (.rng 0 j.toNat) st1 else none
  | _ => none
noncomputable def iR2 (f : DA) : DI := fun ρ st => bnd (f ρ st) fun xs st1 => match xs with
  | [.int i, .int j] => if InR i ∧ InR j then ret (.rng i (j - i).toNat) st1 else none
  | _ => none
theorem pmi_range1 {a : Expr} {f : DA} {p : Pos} (hg : Gl X "range") (hm : X.mg "range" = none) (ha : PMA A X W [a] f) (hs : starEach [a] X.env = [(false, eval a X.env)]) : PMI A X W tg (.Call (.Name "range" p) [a] [] pos) (iR1 f) := by
  refine (pi_range1 hg hm ha hs).imp fun σ H Q ⟨m, ρ, st, r, v, k⟩ => ?_
  refine tMA.thenG r v k fun xs us st1 m1 H1 r1 e1 v1 hus k1 => ?_
  split at k1
  · rename_i j
    match us, hus with
    | [_], .cons (.int _) .nil =>
      split at k1
      · rename_i hj
        exact ⟨j, rfl, hj.lo, hj.hi, Run.ok k1 .refl r1 _ itOk_rng⟩
      · exact k1.elim
  · exact k1.elim
theorem pmi_range2 {a b : Expr} {f : DA} {p : Pos} (hg : Gl X "range") (hm : X.mg "range" = none) (ha : PMA A X W [a, b] f) (hs : starEach [a, b] X.env = [(false, eval a X.env), (false, eval b X.env)]) (hs2 : starEach [b] X.env = [(false, eval b X.env)]) :
    PMI A X W tg (.Call (.Name "range" p) [a, b] [] pos) (iR2 f) := by
  refine (pi_range2 hg hm ha hs hs2).imp fun σ H Q ⟨m, ρ, st, r, v, k⟩ => ?_
  refine tMA.thenG r v k fun xs us st1 m1 H1 r1 e1 v1 hus k1 => ?_
  split at k1
  · rename_i i j
    match us, hus with
    | [_, _], .cons (.int _) (.cons (.int _) .nil) =>
      split at k1
      · rename_i hj
        exact ⟨i, j, rfl, ⟨hj.1.lo, hj.1.hi, hj.2.lo, hj.2.hi⟩, Run.ok k1 .refl r1 _ itOk_rng⟩
      · exact k1.elim
  · exact k1.elim
def iEn (f : DA) : DI := fun ρ st => bnd (f ρ st) fun xs st1 => match xs with | [x] => (match isOf x st1 with | some s => ret (.en s) st1 | none => none) | _ => none
theorem pmi_enum {e : Expr} {f : DA} {p tpos : Pos} {elts : List Expr} {kk : Nat} (hg : Gl X "enumerate") (hm : X.mg "enumerate" = none) (ha : PMA A X W [e] f) (hs : starEach [e] X.env = [(false, eval e X.env)]) : PMI A X W (.Tuple elts kk tpos) (.Call (.Name "enumerate" p) [e] [] pos) (iEn f) := by
  refine (pi_enA hg hm ha hs).imp fun σ H Q ⟨m, ρ, st, r, v, k⟩ => ?_
  refine tMA.thenG r v k fun xs us st1 m1 H1 r1 e1 v1 hus k1 => ?_
  split at k1
  · rename_i x
    match us, hus with
    | [u], .cons hu .nil =>
      split at k1
      · rename_i s q
        obtain ⟨a, vs, rfl, h1, h2⟩ := isOf_ok r1 hu q
        exact ⟨a, vs, s.sk, rfl, h2, Run.ok k1 .refl r1 _ (itOk_en h1)⟩
      · exact k1.elim
  · exact k1.elim
def iZp (f : DA) : DI := fun ρ st => bnd (f ρ st) fun xs st1 => match xs with | [x, y] => (match isOf x st1, isOf y st1 with | some s, some s' => ret (.zp s s') st1 | _, _ => none) | _ => none
theorem pmi_zip {e e2 : Expr} {f : DA} {p tpos : Pos} {elts : List Expr} {kk : Nat} (hg : Gl X "zip") (hm : X.mg "zip" = none) (ha : PMA A X W [e, e2] f) (hs : starEach [e, e2] X.env = (false, eval e X.env) :: starEach [e2] X.env) (hpl : (backTo pos (starEach [e2] X.env)).any (·.1) = false) :
    PMI A X W (.Tuple elts kk tpos) (.Call (.Name "zip" p) [e, e2] [] pos) (iZp f) := by
  refine (pi_zpA hg hm ha hs hpl).imp fun σ H Q ⟨m, ρ, st, r, v, k⟩ => ?_
  refine tMA.thenG r v k fun xs us st1 m1 H1 r1 e1 v1 hus k1 => ?_
  split at k1
  · rename_i x y
    match us, hus with
    | [u, u'], .cons hu (.cons hu' .nil) =>
      split at k1
      · rename_i s s' q q'
        obtain ⟨a, vs, rfl, h1, h2⟩ := isOf_ok r1 hu q
        obtain ⟨b, vs', rfl, h1', h2'⟩ := isOf_ok r1 hu' q'
        exact ⟨a, b, vs, vs', s.sk, s'.sk, rfl, h2, h2', Run.ok k1 .refl r1 _ (itOk_zp h1 h1')⟩
      · exact k1.elim
  · exact k1.elim
def aft (r : SR) (k : DS) : SR := match r with
  | some (.nx, ρ, st) => k ρ st
  | some (.ct, ρ, st) => k ρ st
  | some (.bk, ρ, st) => some (.nx, ρ, st)
  | r => r
def aftG (r : SR) (k : DS) : SR := match r with
  | some (.nx, ρ, st) => k ρ st
  | some (.exc x, ρ, st) => some (.exc x, ρ, st)
  | _ => none
abbrev Nxt (c : GC) (W : WX) (D : Ends) (m : List Addr) (H : Hp) (k : DS) (σ' : L2.St) (H' : Hp) : Prop := ∃ m' ρ' st', Ext c m H m' H' ∧ Rel c m' st' H' ∧ REnv c m' H' ρ' σ' ∧ SRun c W D m' H' (k ρ' st')
theorem SRun.aft {c : GC} {D : Ends} {m : List Addr} {H : Hp} {r : SR} {k : DS} (h : SRun c W D m H (CS.aft r k)) : SRun c W { D with nx := Nxt c W D m H k, ct := Nxt c W D m H k, bk := D.nx } m H r := by
  match r, h with
  | none, h => exact h
  | some (.nx, ρ, st), h => exact fun m1 H1 s1 e1 r1 v1 => ⟨m1, ρ, st, e1, r1, v1, SRun.mono (r := k ρ st) h e1⟩
  | some (.ct, ρ, st), h => exact fun m1 H1 s1 e1 r1 v1 => ⟨m1, ρ, st, e1, r1, v1, SRun.mono (r := k ρ st) h e1⟩
  | some (.bk, ρ, st), h => exact h
  | some (.rt v, _, st), h => exact h
  | some (.exc x, ρ, st), h => exact h
theorem SRun.aftG {c : GC} {D : Ends} {m : List Addr} {H : Hp} {r : SR} {k : DS} (h : SRun c W D m H (CS.aftG r k)) : SRun c W (endN (Nxt c W D m H k)) m H r := by
  match r, h with
  | none, h => exact h
  | some (.nx, ρ, st), h => exact fun m1 H1 s1 e1 r1 v1 => ⟨m1, ρ, st, e1, r1, v1, SRun.mono (r := k ρ st) h e1⟩
  | some (.ct, ρ, st), h => exact h.elim
  | some (.bk, ρ, st), h => exact h.elim
  | some (.rt v, _, st), h => exact h.elim
  | some (.exc x, ρ, st), h => exact h
theorem SRun.ends {c : GC} {D D' : Ends} {m : List Addr} {H : Hp} {r : SR} (h : SRun c W D m H r) (h1 : ∀ m' σ' H', Ext c m H m' H' → D.nx σ' H' → D'.nx σ' H') (h2 : ∀ u H', D.rt u H' → D'.rt u H') (h3 : ∀ σ' H', D.bk σ' H' → D'.bk σ' H') (h4 : ∀ m' σ' H', Ext c m H m' H' → D.ct σ' H' → D'.ct σ' H') : SRun c W D' m H r := by
  match r, h with
  | none, h => exact h
  | some (.nx, ρ, st), h => exact fun m1 H1 s1 e1 r1 v1 => h1 m1 _ _ e1 (h m1 H1 s1 e1 r1 v1)
  | some (.ct, ρ, st), h => exact fun m1 H1 s1 e1 r1 v1 => h4 m1 _ _ e1 (h m1 H1 s1 e1 r1 v1)
  | some (.bk, ρ, st), h => exact fun m1 H1 s1 e1 r1 v1 => h3 _ _ (h m1 H1 s1 e1 r1 v1)
  | some (.rt v, _, st), h => exact fun m1 H1 u e1 r1 v1 => h2 _ _ (h m1 H1 u e1 r1 v1)
  | some (.exc x, ρ, st), h => exact h
def forM (it : IM) (g : DG) (b : DS) : Nat → Nat → DS
  | 0, _, ρ, st => if it.fin st then some (.nx, ρ, st) else none
  | n + 1, k, ρ, st => match it.get k st with
    | none => none
    | some x => aftG (g x ρ st) fun ρ1 st1 => aft (b ρ1 st1) (forM it g b n (k + 1))
def sFor (f : DI) (g : DG) (b : DS) : DS := fun ρ st => sb ρ (f ρ st) fun it st1 => forM it g b it.cnt 0 ρ st1
theorem pms_for {iter : Expr} {body : List Stmt} {f : DI} {g : DG} {b : DS} (hp : PassesOwn (model X.prog X.w) X.A X.env X.xe) (hc : X.calm = true) (hi : PMI A X W tg iter f) (hg : PMG A X W tg g) (hb : PMSs A X W body b) (hs : ∀ x, foldedSetIterable iter X.env x = pure x) :
    PMS A X W (.For tg iter body [] pos) (sFor f g b) := by
  refine (ps_for hp hc hi hg hb hs).imp fun D σ H ⟨m, ρ, st, r, w, k⟩ => ?_
  refine ⟨m, ρ, st, r, w, (SRun.sb k w).imp fun it st1 m1 H1 r1 e1 k1 J hJ => ?_⟩
  refine ⟨fun i n σ2 H2 => i + n = it.cnt ∧ Nxt (gc A X) W D m1 H1 (forM it g b n i) σ2 H2, ⟨it.cnt, by omega, m1, ρ, st1, .refl, r1, w.mono e1, k1⟩, ?_⟩
  rintro i n σ2 H2 ⟨hn, m2, ρ2, st2, e2, r2, w2, k2⟩
  cases n with
  | zero =>
    unfold forM at k2
    split at k2
    · rename_i hf
      have hi : i = it.cnt := by omega
      exact .inl ⟨by rw [hi]; exact hJ.stop m2 st2 H2 e2.toGr r2 hf, k2 m2 H2 σ2 .refl r2 w2⟩
    · exact k2.elim
  | succ n =>
    unfold forM at k2
    cases q : it.get i st2 with
    | none => simp only [q] at k2; exact k2.elim
    | some x =>
      simp only [q] at k2
      obtain ⟨go, yl⟩ := hJ.go i m2 st2 H2 x e2.toGr r2 q
      refine .inr ⟨go, fun σ3 H3 => i + 1 + n = it.cnt ∧ Nxt (gc A X) W D m1 H1 (forM it g b n (i + 1)) σ3 H3, fun σ' H' h => ⟨n, Nat.lt_succ_self n, h⟩, fun u H3 y => ?_⟩
      obtain ⟨e3, r3, rv⟩ := yl u H3 y
      have k3 := SRun.mono (SRun.aftG k2) e3
      refine ⟨m2, ρ2, st2, x, r3, w2.mono e3, rv, k3.ends (fun m4 σ4 H4 e4 ⟨m5, ρ5, st5, e5, r5, w5, k5⟩ => ?_) (fun _ _ z => z) (fun _ _ z => z) fun _ _ _ _ z => z⟩
      refine ⟨m5, ρ5, st5, r5, w5, (SRun.aft k5).ends ?_ (fun _ _ z => z) (fun _ _ z => z) ?_⟩
      all_goals
        rintro m6 σ6 H6 e6 ⟨m7, ρ7, st7, e7, r7, w7, k7⟩
        exact ⟨by omega, m7, ρ7, st7, e2.trans (e5.trans e7), r7, w7, k7⟩
end
end CS
namespace CS
open PySem PySem.Spec L2
inductive CT where | one (i : Nat) | tup (is : List Nat)
def CT.slots : CT → List Nat
  | .one i => [i]
  | .tup is => is
def setAll : List Nat → List MV → MEnv → Option MEnv
  | [], [], ρ => some ρ
  | i :: is, x :: xs, ρ => setAll is xs (ρ.set i (some x))
  | _, _, _ => none
def ctM (t : CT) (x : MV) (ρ : MEnv) : Option MEnv :=
  match t, x with
  | .one i, x => some (ρ.set i (some x))
  | .tup is, .tup xs => setAll is xs ρ
  | .tup _, _ => none
def namesG : List Nat → TGs
  | [] => gNil
  | i :: is => gCons (gName i) (namesG is)
def ctG (K : PySem.W.Frag) : CT → TG
  | .one i => gName i
  | .tup is => gTup K is.length (namesG is)
def wipeM (ρ : MEnv) : List Nat → MEnv
  | [] => ρ
  | v :: vs => (wipeM ρ vs).set v none
theorem wipe_set (σ : L2.St) (i : Nat) (a : Option V) : ∀ vs : List Nat, wipe (σ.set i a) vs = if i ∈ vs then wipe σ vs else (wipe σ vs).set i a
  | [] => by simp [wipe]
  | v :: vs => by
    show (wipe (σ.set i a) vs).set v none = _
    rw [wipe_set σ i a vs]
    by_cases h : i ∈ vs
    · rw [if_pos h, if_pos (List.mem_cons_of_mem _ h)]; rfl
    · rw [if_neg h]
      by_cases e : i = v
      · subst e
        rw [if_pos List.mem_cons_self]
        show _ = (wipe σ vs).set i none
        rw [List.set_set]
      · rw [if_neg (by simp [e, h])]
        show _ = ((wipe σ vs).set v none).set i a
        rw [List.set_comm _ _ e]
theorem wipe_wipe (σ : L2.St) : ∀ vs : List Nat, wipe (wipe σ vs) vs = wipe σ vs
  | [] => rfl
  | a :: l => by
    show (wipe ((wipe σ l).set a none) l).set a none = (wipe σ l).set a none
    rw [wipe_set]
    split
    · rw [wipe_wipe σ l]
    · rw [wipe_wipe σ l, List.set_set]
theorem wipe_in {σ : L2.St} {i : Nat} {a : Option V} {vs : List Nat} (h : i ∈ vs) : wipe (σ.set i a) vs = wipe σ vs := by rw [wipe_set, if_pos h]
section
variable {c : GC} {m : List Addr} {H : Hp} {ρ ρ' : MEnv} {σ : L2.St}
theorem REnv.wipe (r : REnv c m H ρ σ) : ∀ vs : List Nat, REnv c m H (wipeM ρ vs) (L2.wipe σ vs)
  | [] => r
  | v :: vs => (REnv.wipe r vs).unset
theorem names_ok {Q : L2.St → Hp → Prop} {vs : List Nat} : ∀ {is : List Nat} {xs : List MV} {us : List V} {ρ : MEnv} {σ : L2.St}, REnv c m H ρ σ → RVs c m H xs us → setAll is xs ρ = some ρ' → (∀ i ∈ is, i ∈ vs) →
    (∀ σ', REnv c m H ρ' σ' → L2.wipe σ' vs = L2.wipe σ vs → Q σ' H) → namesG is us σ H Q
  | [], [], _, ρ, σ, r, .nil, e, _, k => by cases e; exact ⟨rfl, k σ r rfl⟩
  | i :: is, x :: xs, _, ρ, σ, r, .cons h hs, e, hi, k => ⟨_, _, rfl, names_ok (r.set h) hs e (fun j hj => hi j (List.mem_cons_of_mem _ hj)) fun σ' r' w' => k σ' r' (w'.trans (wipe_in (hi i List.mem_cons_self)))⟩
  | [], _ :: _, _, _, _, _, _, e, _, _ => by cases e
  | _ :: _, [], _, _, _, _, _, e, _, _ => by cases e
theorem setAll_len : ∀ {is : List Nat} {xs : List MV} {ρ ρ' : MEnv}, setAll is xs ρ = some ρ' → xs.length = is.length
  | [], [], _, _, _ => rfl
  | _ :: is, _ :: xs, _, _, e => by simp [setAll_len (is := is) (xs := xs) e]
  | [], _ :: _, _, _, e => by cases e
  | _ :: _, [], _, _, e => by cases e
theorem ct_ok {Q : L2.St → Hp → Prop} {vs : List Nat} {t : CT} {x : MV} {v : V} (r : REnv c m H ρ σ) (h : RV c m H x v) (e : ctM t x ρ = some ρ') (hi : ∀ i ∈ t.slots, i ∈ vs)
    (k : ∀ σ', REnv c m H ρ' σ' → L2.wipe σ' vs = L2.wipe σ vs → Q σ' H) : ctG c.K t v σ H Q := by
  cases t with
  | one i =>
    cases e
    exact k _ (r.set h) (wipe_in (hi i (by simp [CT.slots])))
  | tup is =>
    cases h with
    | @tup a xs us hs hv => exact ⟨a, us, rfl, hs.toT, by rw [← hv.length]; exact setAll_len e, names_ok r hv e hi k⟩
    | _ => cases e
end
section
variable {c : GC} {m m0 : List Addr} {H H0 : Hp} {st : Sto} {D : Addr} {xs ys : List V}
theorem REnv.gr {m' : List Addr} {H' : Hp} {ρ : MEnv} {σ : L2.St} (r : REnv c m H ρ σ) (e : Gr c m H m' H') : REnv c m' H' ρ σ := ⟨r.len, fun i x h => by
  obtain ⟨v, h1, h2⟩ := r.at_ i x h
  exact ⟨v, h1, h2.gr e⟩⟩
theorem gr_off (hD : H D = some (.lst xs)) : Gr c m H m (upd H D (.lst ys)) := by
  refine ⟨⟨[], by simp⟩, fun b zs h => ?_⟩
  rcases h with ⟨o, h, hd⟩ | h
  · exact .inl ⟨o, by rw [upd_ne (ne_of h hD (by intro z; cases z))]; exact h, hd⟩
  · exact .inr h
theorem Rel.off (r : Rel c m st H) (h00 : c.H0 D = none) (hD : H D = some (.lst xs)) (hm : D ∉ m) : Rel c m st (upd H D (.lst ys)) := by
  refine ⟨r.len, r.nd, fun i o h => ?_, ?_, fun p hp => ?_⟩
  case refine_2 =>
    refine ⟨r.gr.pre, fun b zs h => (gr_off (c := c) (m := m) hD).tup b zs (r.gr.tup b zs h), r.gr.fresh, fun b o h hm ht => ?_, fun b h => ?_⟩
    · rw [upd_ne (ne_of_none h h00)]; exact r.gr.frame b o h hm ht
    · by_cases z : b = D
      · rw [z, upd_same]; simp
      · rw [upd_ne z]; exact r.gr.live b h
  case refine_3 =>
    obtain ⟨ps, h1, h2, h3⟩ := r.tabs p hp
    have na : ∀ d v, H d = some v → (∀ zs, v ≠ .lst zs) → d ≠ D := fun d v hd k z => by
      rw [z, hD] at hd
      cases hd
      exact k _ rfl
    refine ⟨ps, (upd_ne (na _ _ h1 fun _ z => by cases z)).trans h1, h2, fun pos cv hc => ?_⟩
    obtain ⟨d, e1, e2⟩ := h3 pos cv hc
    exact ⟨d, e1, (upd_ne (na _ _ e2 fun _ z => by cases z)).trans e2⟩
  obtain ⟨a, ha, q⟩ := r.obj i o h
  have g : Gr c m H m (upd H D (.lst ys)) := gr_off hD
  have ne : a ≠ D := fun z => hm (by rw [← z]; exact List.mem_of_getElem? ha)
  refine ⟨a, ha, ?_⟩
  cases o with
  | lst zs => obtain ⟨us, h1, h2⟩ := q; exact ⟨us, by rw [upd_ne ne]; exact h1, h2.gr g⟩
  | frz zs => obtain ⟨ob, us, h1, h2⟩ := q; exact ⟨ob, us, by rw [upd_ne ne]; exact h1, h2.gr g⟩
  | ins k fs => obtain ⟨C, dx, gs, h0, h1, h2⟩ := q; exact ⟨C, dx, gs, h0, by rw [upd_ne ne]; exact h1, Paired.mapP h2 fun p q z => ⟨z.1, z.2.gr g⟩⟩
  | dct => exact (upd_ne ne).trans q
theorem Ext.off (e : Ext c m0 H0 m H) (h0 : H0 D = none) (hD : H D = some (.lst xs)) : Ext c m0 H0 m (upd H D (.lst ys)) := by
  refine ⟨e.pre, fun b zs h => (gr_off (c := c) (m := m) hD).tup b zs (e.tup b zs h), e.fresh, fun b o h hm ht => ?_, fun b h => ?_⟩
  · rw [upd_ne (ne_of_none h h0)]; exact e.frame b o h hm ht
  · by_cases z : b = D
    · rw [z, upd_same]; simp
    · rw [upd_ne z]; exact e.live b h
theorem Ext.keepD {m' : List Addr} {H' : Hp} (e : Ext c m H m' H') (hD : H D = some (.lst xs)) (hm : D ∉ m) : H' D = some (.lst xs) ∧ D ∉ m' :=
  ⟨e.frame D _ hD hm (fun _ z => by cases z), fun z => (e.fresh D z).elim hm fun q => by rw [hD] at q; cases q⟩
end
def bndN {α β : Type} (r : R α) (f : α → Sto → R β) : R β := match r with | some (.ok a, st) => f a st | _ => none
abbrev W0 : WX := fun _ _ _ _ => False
theorem Run.bndN {c : GC} {W : WX} {σ σ' : L2.St} {m0 m : List Addr} {H0 H : Hp} {α β : Type} {r : R α} {f : α → Sto → R β} {K : Kn β} (h : Run c W σ m0 H0 (CS.bndN r f) K) : Run c W0 σ' m H r (fun a st _ _ => Run c W σ m0 H0 (f a st) K) := by
  match r, h with
  | none, h => exact h
  | some (.error x, st), h => exact h.elim
  | some (.ok a, st), h => exact fun _ _ _ _ => h
def lcM (it : IM) (t : CT) (p : DB) (f : DE) : Nat → Nat → MEnv → Sto → R (List MV)
  | 0, _, _, st => if it.fin st then ret [] st else none
  | n + 1, k, ρ, st => match it.get k st with
    | none => none
    | some x => match ctM t x ρ with
      | none => none
      | some ρ1 => bndN (p ρ1 st) fun b st1 => if b then bndN (f ρ1 st1) fun y st2 => bndN (lcM it t p f n (k + 1) ρ st2) fun ys st3 => ret (y :: ys) st3
        else lcM it t p f n (k + 1) ρ st1
def kL (c : GC) (Hs : Hp) (Q : VK) (acc : List MV) : Kn (List MV) := fun xs _ m' H' => ∀ D vs, Hs D = none → H' D = some (.lst vs) → D ∉ m' → RVs c m' H' (acc ++ xs) vs → Q (.ref D) H'
def tML (c : GC) (W : WX) (f : DA) : TE := fun σ H Q => ∃ m ρ st, Rel c m st H ∧ REnv c m H ρ σ ∧ Run c W σ m H (f ρ st) (kL c H Q [])
abbrev PML (A : AD) (X : Cx) (W : WX) (e : Expr) (f : DA) : Prop := PE X e (tML (gc A X) W f)
def LcW (c : GC) (Hs : Hp) (W : WX) (σr σ : L2.St) (m0 : List Addr) (H0 : Hp) (D : Addr) (it : IM) (ρ : MEnv) (go : Nat → Nat → MEnv → Sto → R (List MV)) (Q : VK) (i n : Nat) (H : Hp) : Prop :=
  i + n = it.cnt ∧ ∃ m st acc vs, Ext c m0 H0 m H ∧ Rel c m st H ∧ REnv c m H ρ σ ∧ H D = some (.lst vs) ∧ D ∉ m ∧ RVs c m H acc vs ∧ acc.length ≤ i ∧ Run c W σr m0 H0 (go n i ρ st) (kL c Hs Q acc)
def eLc (fi : DI) (t : CT) (p : DB) (f : DE) (vs : List Nat) : DA := fun ρ st => bnd (fi ρ st) fun it st1 => if it.cnt ≤ sizeLine then lcM it t p f it.cnt 0 (wipeM ρ vs) st1 else none
theorem kL_more {c : GC} {W : WX} {σ : L2.St} {m : List Addr} {Hs H : Hp} {Q : VK} {acc : List MV} {y : MV} {r : R (List MV)} (h : Run c W σ m H (bndN r fun ys st3 => ret (y :: ys) st3) (kL c Hs Q acc)) : Run c W σ m H r (kL c Hs Q (acc ++ [y])) := by
  match r, h with
  | none, h => exact h
  | some (.error x, st), h => exact h.elim
  | some (.ok ys, st), h => exact fun m1 H1 e1 r1 D vs h0 h1 h2 h3 => h m1 H1 e1 r1 D vs h0 h1 h2 (by simpa using h3)
section
variable {A : AD} {X : Cx} {W : WX} {tg elt iter : Expr} {ifs : List Expr} {scope : Scope} {own : List (Str × Nat)} {pos : Pos} {fi : DI} {t : CT} {p : DB} {f : DE}
abbrev PMTs (A : AD) (X : Cx) (ifs : List Expr) (p : DB) : Prop := PTs X ifs (tMB (gc A X) W0 p)
def bYes : DB := fun _ st => ret true st
theorem pmts_nil : PMTs A X [] bYes := ⟨fun pins s σ H Q I ⟨m, ρ, st, r, v, k⟩ => pts_nil.run pins s σ H Q I (Run.ok k .refl r)⟩
theorem pmts_one {e : Expr} (h : PMT A X W0 e p) : PMTs A X [e] p := pts_one h
theorem lc_turn {c : GC} {σ : L2.St} {m0 : List Addr} {Hs H0 H : Hp} {D : Addr} {it : IM} {J : It} {ρ : MEnv} {Q : VK} {i n : Nat} {vs : List Nat} (hJ : ItOk c it J m0 H0) (hs0 : Hs D = none) (h0 : H0 D = none) (h00 : c.H0 D = none) (hi : ∀ j ∈ t.slots, j ∈ vs) (hc : it.cnt ≤ sizeLine)
    (h : LcW c Hs W σ (wipe σ vs) m0 H0 D it ρ (lcM it t p f) Q i n H) :
    (J.stop i H ∧ Q (.ref D) H) ∨ (J.go i H ∧ ∃ Nx : Hp → Prop, (∀ H', Nx H' → ∃ n', n' < n ∧ LcW c Hs W σ (wipe σ vs) m0 H0 D it ρ (lcM it t p f) Q (i + 1) n' H') ∧ ∀ x H', J.yld i H x H' → ctG c.K t x (wipe σ vs) H' fun σ2 H2 => wipe σ2 vs = wipe σ vs ∧ tMB c W0 p σ2 H2 fun b H3 =>
      if b = true then tM c W0 f σ2 H3 fun y H4 => ∃ acc, H4 D = some (.lst acc) ∧ acc.length < sizeLine ∧ Nx (upd H4 D (.lst (acc ++ [y]))) else Nx H3) := by
  obtain ⟨hn, m, st, acc, us, e, r, v, hD, hm, hv, hl, k⟩ := h
  cases n with
  | zero =>
    unfold lcM at k
    split at k
    · rename_i hf
      have hi : i = it.cnt := by omega
      exact .inl ⟨by rw [hi]; exact hJ.stop m st H e.toGr r hf, Run.ok k e r D us hs0 hD hm (by simpa using hv)⟩
    · exact k.elim
  | succ n =>
    unfold lcM at k
    cases q : it.get i st with
    | none => simp only [q] at k; exact k.elim
    | some x =>
      simp only [q] at k
      obtain ⟨go, yl⟩ := hJ.go i m st H x e.toGr r q
      refine .inr ⟨go, fun H' => LcW c Hs W σ (wipe σ vs) m0 H0 D it ρ (lcM it t p f) Q (i + 1) n H', fun H' z => ⟨n, Nat.lt_succ_self n, z⟩, fun u H1 y => ?_⟩
      obtain ⟨e1, r1, rv⟩ := yl u H1 y
      obtain ⟨hD1, hm1⟩ := e1.keepD hD hm
      cases q2 : ctM t x ρ with
      | none => simp only [q2] at k; exact k.elim
      | some ρ1 =>
        simp only [q2] at k
        refine ct_ok (v.mono e1) rv q2 hi fun σ2 v2 hw => ⟨hw.trans (wipe_wipe σ vs), m, ρ1, st, r1, v2, k.bndN.imp fun b st3 m3 H3 r3 e3 k3 => ?_⟩
        obtain ⟨hD3, hm3⟩ := e3.keepD hD1 hm1
        have E3 : Ext c m H m3 H3 := e1.trans e3
        cases b with
        | true =>
          rw [if_pos rfl]
          simp only [if_true] at k3
          refine ⟨m3, ρ1, st3, r3, v2.mono e3, k3.bndN.imp fun y st4 m4 H4 r4 e4 k4 u4 hu4 => ?_⟩
          obtain ⟨hD4, hm4⟩ := e4.keepD hD3 hm3
          have E4 : Ext c m H m4 H4 := E3.trans e4
          have g : Gr c m4 H4 m4 (upd H4 D (.lst (us ++ [u4]))) := gr_off hD4
          have l1 := hv.length
          exact ⟨us, hD4, by omega, by omega, m4, st4, acc ++ [y], us ++ [u4], (e.trans E4).off h0 hD4, r4.off h00 hD4 hm4, (v.mono E4).gr g, upd_same, hm4, ((hv.mono E4).append (.cons hu4 .nil)).gr g, by simp; omega, kL_more k4⟩
        | false =>
          rw [if_neg Bool.false_ne_true]
          exact ⟨by omega, m3, st3, acc, us, e.trans E3, r3, v.mono E3, hD3, hm3, hv.mono E3, by omega, k3⟩
theorem lc_imp {m : List Addr} {ρ : MEnv} {st : Sto} {σ : L2.St} {H : Hp} {Q : VK} {own : List Nat} {D0 : Hp} (r : Rel (gc A X) m st H) (v : REnv (gc A X) m H ρ σ) (k : Run (gc A X) W σ m H (eLc fi t p f own ρ st) (kL (gc A X) H Q [])) (hsl : ∀ j ∈ t.slots, j ∈ own) :
    tLc (tMI (gc A X) W fi) (ctG X.K t) (tMB (gc A X) W0 p) (tM (gc A X) W0 f) own σ H Q := by
  refine ⟨m, ρ, st, r, v, k.bnd.imp fun it st1 m1 H1 r1 e1 k1 J hJ D hD => ?_⟩
  split at k1
  · rename_i hcn
    refine ⟨LcW (gc A X) H W σ (wipe σ own) m1 H1 D it (wipeM ρ own) (lcM it t p f) Q, ⟨it.cnt, by omega, m1, st1, [], [], ext_new hD, r1.same (upd_keeps hD), ((v.mono e1).wipe _).mono (ext_new hD), upd_same, fun z => ?_, .nil, by simp, ?_⟩, fun i n H2 h => lc_turn hJ (by cases q : H D with
      | none => rfl
      | some o => exact absurd hD (e1.live D (by rw [q]; simp))) hD (by cases q : (gc A X).H0 D with
      | none => rfl
      | some o => exact absurd hD (r1.gr.live D (by rw [q]; simp))) hsl hcn h⟩
    · obtain ⟨u, hu⟩ := r1.mem z
      rw [hD] at hu; cases hu
    · exact k1
  · exact k1.elim
theorem pml_lc (hc : X.calm = true) (hN : X.N.Nodup) (hi : PMI A X W tg iter fi) (ok : BlkOk X.N X.env.scope scope own)
    (hg : ∀ (s : Shared) (H : Hp) (C : Addr) (cl : List (Str × Addr)) (fp : List Addr), PG (X.blk s H scope (compEnvC scope cl C X.env) fp) tg (ctG X.K t)) (ht : ∀ (s : Shared) (H : Hp) (C : Addr) (cl : List (Str × Addr)) (fp : List Addr), PTs (X.blk s H scope (compEnvC scope cl C X.env) fp) ifs (tMB (gc A X) W0 p))
    (he : ∀ (s : Shared) (H : Hp) (C : Addr) (cl : List (Str × Addr)) (fp : List Addr), PE (X.blk s H scope (compEnvC scope cl C X.env) fp) elt (tM (gc A X) W0 f)) (hs : ∀ x, foldedSetIterable iter X.env x = pure x) (hsl : ∀ j ∈ t.slots, j ∈ own.map (·.2)) :
    PML A X W (.ListComp elt [⟨tg, iter, ifs, 0⟩] scope pos) (eLc fi t p f (own.map (·.2))) :=
  (pe_lc hc hN hi ok hg ht he hs).imp fun σ H Q ⟨m, ρ, st, r, v, k⟩ => lc_imp (D0 := H) r v k hsl
def sLc (i : Nat) (fl : DA) : DS := fun ρ st => sb ρ (fl ρ st) fun xs st1 => some (.nx, ρ.set i (some (.ref st1.length)), st1 ++ [.lst xs])
end
end CS
namespace CS
open PySem PySem.Spec L2
def eNew (f : DA) : DE := fun ρ st => bnd (f ρ st) fun xs st1 => ret (.ref st1.length) (st1 ++ [.lst xs])
theorem adopt {c : GC} {m m' : List Addr} {st : Sto} {H H' : Hp} {D : Addr} {xs : List MV} {vs : List V} (r0 : ∀ b, c.H0 b ≠ none → H b ≠ none) (e : Ext c m H m' H') (r : Rel c m' st H') (h0 : H D = none) (hD : H' D = some (.lst vs)) (hm : D ∉ m') (hv : RVs c m' H' xs vs) :
    Ext c m H (m' ++ [D]) H' ∧ Rel c (m' ++ [D]) (st ++ [.lst xs]) H' := by
  have g : Gr c m' H' (m' ++ [D]) H' := ⟨⟨[D], rfl⟩, fun _ _ h => h⟩
  have e' : Ext c m H (m' ++ [D]) H' := by
    refine ⟨?_, e.tup, fun a ha => ?_, e.frame, e.live⟩
    · obtain ⟨t, rfl⟩ := e.pre
      exact ⟨t ++ [D], by simp⟩
    · rcases List.mem_append.mp ha with h | h
      · exact e.fresh a h
      · rw [List.mem_singleton] at h; rw [h]; exact .inr h0
  refine ⟨e', by simp [r.len], ?_, fun i o h => ?_, ?_, r.tabs⟩
  rotate_left 2
  · refine ⟨?_, r.gr.tup, fun a ha => ?_, r.gr.frame, r.gr.live⟩
    · obtain ⟨t, e1⟩ := r.gr.pre
      exact ⟨t ++ [D], by rw [e1]; simp⟩
    · rcases List.mem_append.mp ha with h | h
      · exact r.gr.fresh a h
      · rw [List.mem_singleton] at h
        refine .inr ?_
        cases q : c.H0 a with
        | none => rfl
        | some u => exact (r0 a (by rw [q]; simp) (by rw [h]; exact h0)).elim
  · refine List.nodup_append.mpr ⟨r.nd, by simp, fun x hx y hy => ?_⟩
    rw [List.mem_singleton] at hy
    subst hy
    rintro rfl
    exact hm hx
  · by_cases hi : i < st.length
    · rw [List.getElem?_append_left hi] at h
      obtain ⟨a, ha, q⟩ := r.obj i o h
      refine ⟨a, by rw [List.getElem?_append_left (by rw [r.len]; exact hi)]; exact ha, ?_⟩
      cases o with
      | lst zs => obtain ⟨us, h1, h2⟩ := q; exact ⟨us, h1, h2.gr g⟩
      | frz zs => obtain ⟨ob, us, h1, h2⟩ := q; exact ⟨ob, us, h1, h2.gr g⟩
      | ins k fs => obtain ⟨C, dx, gs, h0, h1, h2⟩ := q; exact ⟨C, dx, gs, h0, h1, Paired.mapP h2 fun p q z => ⟨z.1, z.2.gr g⟩⟩
      | dct => exact q
    · have hl : i = st.length := by
        have := (List.getElem?_eq_some_iff.mp h).1
        simp at this; omega
      subst hl
      simp at h
      subst h
      exact ⟨D, by rw [← r.len]; simp, vs, hD, hv.gr g⟩
section
variable {A : AD} {X : Cx} {W : WX} {e : Expr} {fl : DA} {pos : Pos}
theorem new_of {c : GC} {σ : L2.St} {m : List Addr} {H : Hp} {ρ : MEnv} {st : Sto} {K : Kn MV} {Q : VK} (r0 : ∀ b, c.H0 b ≠ none → H b ≠ none) (k : Run c W σ m H (eNew fl ρ st) K) (hK : ∀ x st' m' H', Rel c m' st' H' → Ext c m H m' H' → K x st' m' H' → ∀ u, RV c m' H' x u → Q u H') :
    Run c W σ m H (fl ρ st) (kL c H Q []) := by
  unfold eNew bnd at k
  match q : fl ρ st, k with
  | none, k => exact k
  | some (.error x, st1), k => exact k
  | some (.ok xs, st1), k =>
    intro m1 H1 e1 r1 D vs h0 hD hm hv
    obtain ⟨e2, r2⟩ := adopt (xs := xs) r0 e1 r1 h0 hD hm (by simpa using hv)
    exact hK _ _ _ _ r2 e2 (k _ _ e2 r2) _ (.ref (by rw [← r1.len]; simp))
theorem pm_new (h : PML A X W e fl) : PM A X W e (eNew fl) := PE.imp h fun σ H Q ⟨m, ρ, st, r, v, k⟩ => ⟨m, ρ, st, r, v, new_of r.gr.live k fun _ _ _ _ _ _ q => q⟩
def ClL (A : AD) (X : Cx) (W : WX) (f : Value) (g : List MV → Sto → R MV) : Prop :=
  ∃ r : List V → Hp → VK → Prop, CallR X f r ∧ ∀ (m : List Addr) (st : Sto) (σ : L2.St) (H : Hp) (xs : List MV) (D : Addr) (us : List V) (Q : VK), Rel (gc A X) m st H → H D = some (.lst us) → RVs (gc A X) m H xs us → Run (gc A X) W σ m H (g xs st) (kV (gc A X) Q) → r [.ref D] H Q
def eFu (g : List MV → Sto → R MV) (fl : DA) : DE := fun ρ st => bnd (fl ρ st) fun xs st1 => g xs st1
theorem fuse_of {g : List MV → Sto → R MV} {r : List V → Hp → VK → Prop} {σ : L2.St} {H : Hp} {Q : VK}
    (hr : ∀ (m : List Addr) (st : Sto) (σ : L2.St) (H : Hp) (xs : List MV) (D : Addr) (us : List V) (Q : VK), Rel (gc A X) m st H → H D = some (.lst us) → RVs (gc A X) m H xs us → Run (gc A X) W σ m H (g xs st) (kV (gc A X) Q) → r [.ref D] H Q)
    (h : tM (gc A X) W (eFu g fl) σ H Q) : tCB r (tCons (tML (gc A X) W fl) tNil) σ H Q := by
  obtain ⟨m, ρ, st, rr, v, k⟩ := h
  exact ⟨m, ρ, st, rr, v, k.bnd.imp fun xs st1 m1 H1 r1 e1 k1 D us h0 hD hm hv => hr m1 st1 σ H1 xs D us Q r1 hD (by simpa using hv) k1⟩
def anyL (xs : List MV) (st : Sto) : R MV := match bools xs with | some bs => ret (.bl (bs.any id)) st | none => none
def allL (xs : List MV) (st : Sto) : R MV := match bools xs with | some bs => ret (.bl (bs.all id)) st | none => none
def sumL (xs : List MV) (st : Sto) : R MV := match intsM xs with | some ns => ret (.int ns.sum) st | none => none
def tupleL (xs : List MV) (st : Sto) : R MV := ret (.tup xs) st
def lenL (xs : List MV) (st : Sto) : R MV := ret (.int xs.length) st
theorem cll_any (hc : X.calm = true) : ClL A X W (.builtin "any") anyL := by
  refine ⟨_, cr_any hc, fun m st σ H xs D us Q r hD hv k => ?_⟩
  unfold anyL at k
  split at k
  · rename_i bs e
    exact ⟨D, bs, rfl, SqL.of (by rw [← bools_ok hv e]; exact hD), k.ok .refl r _ (.bl _)⟩
  · exact k.elim
theorem cll_all (hc : X.calm = true) : ClL A X W (.builtin "all") allL := by
  refine ⟨_, cr_all hc, fun m st σ H xs D us Q r hD hv k => ?_⟩
  unfold allL at k
  split at k
  · rename_i bs e
    exact ⟨D, bs, rfl, SqL.of (by rw [← bools_ok hv e]; exact hD), k.ok .refl r _ (.bl _)⟩
  · exact k.elim
theorem cll_sum (hc : X.calm = true) : ClL A X W (.builtin "sum") sumL := by
  refine ⟨_, cr_sum hc, fun m st σ H xs D us Q r hD hv k => ?_⟩
  unfold sumL at k
  split at k
  · rename_i ns e
    exact ⟨D, ns, rfl, SqL.of (by rw [← intsM_ok hv e]; exact hD), k.ok .refl r _ (.int _)⟩
  · exact k.elim
theorem cll_tuple : ClL A X W (.type "tuple") tupleL := by
  refine ⟨_, tupleZ, fun m st σ H xs D us Q r hD hv k => ?_⟩
  exact ⟨D, us, rfl, .inl ⟨SqL.of hD, new_tup r hv k⟩⟩
theorem cll_len : ClL A X W (.builtin "len") lenL := by
  refine ⟨_, call_len_seq, fun m st σ H xs D us Q r hD hv k => ?_⟩
  exact ⟨D, us, rfl, .inl (SqL.of hD), by rw [← hv.length]; exact k.ok .refl r _ (.int _)⟩
theorem pm_fuseB {x : Str} {id : String} {p : Pos} {g : List MV → Sto → R MV} (h : ClL A X W (.builtin id) g) (hg : Gl X x) (hm : X.mg x = none) (hv : bootBuiltins x = some (.builtin id)) (ha : PML A X W e fl) (hn : x ≠ "__name__") (hdb : (x == ("__debug__" : Str)) = false)
    (he : starEach [e] X.env = (false, eval e X.env) :: starEach [] X.env) : PM A X W (.Call (.Name x p) [e] [] pos) (eFu g fl) := by
  obtain ⟨r, hc, hr⟩ := h
  exact (pe_callB hc hg hm hv (pa_cons ha pa_nil he) hn hdb he rfl).imp fun σ H Q q => fuse_of hr q
theorem pm_fuseT {x : Str} {T : String} {p : Pos} {g : List MV → Sto → R MV} (h : ClL A X W (.type T) g) (hg : Gl X x) (hm : X.mg x = none) (hv : bootBuiltins x = some (.type T)) (ha : PML A X W e fl) (hn : x ≠ "__name__") (hdb : (x == ("__debug__" : Str)) = false)
    (he : starEach [e] X.env = (false, eval e X.env) :: starEach [] X.env) : PM A X W (.Call (.Name x p) [e] [] pos) (eFu g fl) := by
  obtain ⟨r, hc, hr⟩ := h
  exact (pe_callTy hc hg hm hv (pa_cons ha pa_nil he) hn hdb he rfl).imp fun σ H Q q => fuse_of hr q
theorem pm_callB {x : Str} {id : String} {p : Pos} {es : List Expr} {fa : DA} {g : List MV → Sto → R MV} (h : ClM A X W (.builtin id) g) (hg : Gl X x) (hm : X.mg x = none) (hv : bootBuiltins x = some (.builtin id)) (ha : PMA A X W (e :: es) fa) (hn : x ≠ "__name__") (hdb : (x == ("__debug__" : Str)) = false)
    (he : starEach (e :: es) X.env = (false, eval e X.env) :: starEach es X.env) (hpl : (backTo pos (starEach es X.env)).any (·.1) = false) : PM A X W (.Call (.Name x p) (e :: es) [] pos) (eCall g fa) := by
  obtain ⟨r, hc, hr⟩ := h
  exact (pe_callB hc hg hm hv ha hn hdb he hpl).imp fun σ H Q q => tCB_of hr q
theorem pm_callT {x : Str} {T : String} {p : Pos} {es : List Expr} {fa : DA} {g : List MV → Sto → R MV} (h : ClM A X W (.type T) g) (hg : Gl X x) (hm : X.mg x = none) (hv : bootBuiltins x = some (.type T)) (ha : PMA A X W (e :: es) fa) (hn : x ≠ "__name__") (hdb : (x == ("__debug__" : Str)) = false)
    (he : starEach (e :: es) X.env = (false, eval e X.env) :: starEach es X.env) (hpl : (backTo pos (starEach es X.env)).any (·.1) = false) : PM A X W (.Call (.Name x p) (e :: es) [] pos) (eCall g fa) := by
  obtain ⟨r, hc, hr⟩ := h
  exact (pe_callTy hc hg hm hv ha hn hdb he hpl).imp fun σ H Q q => tCB_of hr q
end
structure FnG (P : Program) (w : World) (K : PySem.W.Frag) (mg : Str → Option Value) (base : Heap) (k : Nat) (f : Addr) (fd : FuncData) (ps : List Str) (sp : Sp) : Prop where
  len : ∀ vs H Q E, sp vs H Q E → vs.length = ps.length
  run : ∀ (A : Around) (outer : List Env) (s : Shared) (H : Hp) (args : Args) (us : List Value) (vs : List V) (Q : VK) (E : XK), Room k A → A.guards = some [] → Env0 P w K mg base A outer s H → BindsTo s fd args (ps.zip us) → Vals vs us → sp vs H Q E →
    codeAny (model P w) A (.call (.ref f) args) (CR (L2N.CX P w) outer P w H s Q E) s
def spM (c : GC) (sem : List MV → Sto → R MV) (n : Nat) : Sp := fun vs H Q E => vs.length = n ∧ ∃ m st xs, Rel c m st H ∧ RVs c m H xs vs ∧ Run c (fun cls d _ H' => E cls d H') [] m H (sem xs st) (kV c Q)
theorem Run.wish {c : GC} {W W' : WX} {σ σ' : L2.St} {m : List Addr} {H : Hp} {α : Type} {r : R α} {K : Kn α} (h : Run c W σ m H r K) (k : ∀ cls d H', W cls d σ H' → W' cls d σ' H') : Run c W' σ' m H r K := by
  match r, h with
  | none, h => exact h
  | some (.error x, st), h => exact fun m1 H1 cls d e1 r1 x1 => k _ _ _ (h m1 H1 cls d e1 r1 x1)
  | some (.ok a, st), h => exact h
theorem Run.under {c : GC} {W : WX} {σ : L2.St} {m m' : List Addr} {H H' : Hp} {α : Type} {r : R α} {K : Kn α} (h : Run c W σ m H r K) (e : Ext c m H m' H') : Run c W σ m' H' r K := by
  match r, h with
  | none, h => exact h
  | some (.error x, st), h => exact fun m1 H1 cls d e1 r1 x1 => h m1 H1 cls d (e.trans e1) r1 x1
  | some (.ok a, st), h => exact fun m1 H1 e1 r1 => h m1 H1 (e.trans e1) r1
section
variable {A : AD} {X : Cx} {W : WX} {pins : List (Addr × Obj)} {σ : L2.St} {H : Hp} {s : Shared} {l : Nat} {f : Addr} {fd : FuncData} {ps : List Str}
theorem run_g {sp : Sp} {Q : VK} {args : Args} {us : List Value} {vs : List V} (F : FnG X.prog X.w X.K X.mg X.base l f fd ps sp) (hr : Room l X.A) (hg : X.A.guards = some []) (tk : L2N.Takes X W) (I : Inv X pins σ H s) (hb : BindsTo s fd args (ps.zip us)) (r : Vals vs us)
    (h : sp vs H Q fun cls d H' => W cls d σ H') : wpAny (model X.prog X.w) X.A (call (.ref f) args.pos args.kw) (EP X pins σ Q) X.xe s := by
  have pa := L2N.passAt tk σ
  refine wpAny_call (codeAny_mono (F.run X.A X.stack s H args us vs Q _ hr hg I.env0 hb r h) fun res s' hq => ?_)
  match res, hq with
  | .error e, hq => exact pa pins H s e s' I hq
  | .ok (.ret u), hq => exact I.after hq
  | .ok .next, hq => exact hq.elim
  | .ok .brk, hq => exact hq.elim
  | .ok .cont, hq => exact hq.elim
inductive Src where | pos (j : Nat) | kw (j : Nat) | df (j : Nat)
structure Shape where
  n : Nat
  ks : List Str
  arr : List Src
def srcG {α : Type} (d : α) (xs zs ds : List α) : Src → α
  | .pos j => xs.getD j d
  | .kw j => zs.getD j d
  | .df j => ds.getD j d
def arrG {α : Type} (d : α) (sh : Shape) (xs zs ds : List α) : List α := sh.arr.map (srcG d xs zs ds)
structure ShapeOk (K : PySem.W.Frag) (fd : FuncData) (ps : List Str) (ds : List Value) (sh : Shape) : Prop where
  len : sh.arr.length = ps.length
  to : ∀ (s : Shared) (us ws : List Value), K.In s.heap → us.length = sh.n → ws.length = sh.ks.length → BindsTo s fd ⟨us, sh.ks.zip ws⟩ (ps.zip (arrG .none sh us ws ds))
theorem RVs.getD {c : GC} {m : List Addr} {H : Hp} {xs : List MV} {us : List V} (r : RVs c m H xs us) (j : Nat) : RV c m H (xs.getD j .non) (us.getD j .non) := by
  by_cases h : j < xs.length
  · obtain ⟨v, h1, h2⟩ := r.get' (i := j) (x := xs[j]) (by simp [h])
    simpa [List.getD, h1, h] using h2
  · have h' : us.length ≤ j := by rw [← r.length]; omega
    simp [List.getD, List.getElem?_eq_none (show xs.length ≤ j by omega), List.getElem?_eq_none h']
    exact .non
theorem Vals.getD {vs : List V} {us : List Value} (r : Vals vs us) (j : Nat) : RelV (vs.getD j .non) (us.getD j .none) := by
  by_cases h : j < vs.length
  · obtain ⟨v, h1, h2⟩ := r.get (i := j) (x := vs[j]) (by simp [h])
    simpa [List.getD, h1, h] using h2
  · have h' : us.length ≤ j := by rw [← r.length]; omega
    simp [List.getD, List.getElem?_eq_none (show vs.length ≤ j by omega), List.getElem?_eq_none h']
    rfl
theorem arr_rvs {c : GC} {m : List Addr} {H : Hp} {xs zs ds : List MV} {us ws es : List V} (r1 : RVs c m H xs us) (r2 : RVs c m H zs ws) (r3 : RVs c m H ds es) (sh : Shape) : RVs c m H (arrG .non sh xs zs ds) (arrG .non sh us ws es) := by
  unfold arrG
  induction sh.arr with
  | nil => exact .nil
  | cons a l ih =>
    refine .cons ?_ ih
    cases a with
    | pos j => exact r1.getD j
    | kw j => exact r2.getD j
    | df j => exact r3.getD j
theorem arr_vals {xs zs ds : List V} {us ws es : List Value} (r1 : Vals xs us) (r2 : Vals zs ws) (r3 : Vals ds es) (sh : Shape) : Vals (arrG .non sh xs zs ds) (arrG .none sh us ws es) := by
  unfold arrG
  induction sh.arr with
  | nil => exact .nil
  | cons a l ih =>
    refine .cons ?_ ih
    cases a with
    | pos j => exact CS.Vals.getD r1 j
    | kw j => exact CS.Vals.getD r2 j
    | df j => exact CS.Vals.getD r3 j
def CvOk (A : AD) (X : Cx) (W : WX) (u : Value) (n : Nat) (ks : List Str) (g : List MV → List MV → Sto → R MV) : Prop :=
  ∀ (pins : List (Addr × Obj)) (σ : L2.St) (H : Hp) (s : Shared) (Q : VK) (m : List Addr) (st : Sto) (xs zs : List MV) (vs ws : List V) (us ts : List Value), Inv X pins σ H s → Rel (gc A X) m st H → RVs (gc A X) m H xs vs → Vals vs us → RVs (gc A X) m H zs ws → Vals ws ts →
    xs.length = n → zs.length = ks.length → Run (gc A X) W σ m H (g xs zs st) (kV (gc A X) Q) → wpAny (model X.prog X.w) X.A (call u us (ks.zip ts)) (EP X pins σ Q) X.xe s
def Dfs (c : GC) (dm : List MV) (ds : List Value) : Prop := ∃ dv : List V, Vals dv ds ∧ ∀ m H, RVs c m H dm dv
theorem cv_fn {sem : List MV → Sto → R MV} {dm : List MV} {ds : List Value} {sh : Shape} (F : FnG X.prog X.w X.K X.mg X.base l f fd ps (spM (gc A X) sem ps.length)) (hr : Room l X.A) (hg : X.A.guards = some []) (tk : L2N.Takes X W) (hs : ShapeOk X.K fd ps ds sh) (hd : Dfs (gc A X) dm ds) :
    CvOk A X W (.ref f) sh.n sh.ks (fun xs zs st => sem (arrG .non sh xs zs dm) st) := by
  intro pins σ H s Q m st xs zs vs ws us ts I r h1 q1 h2 q2 l1 l2 k
  obtain ⟨dv, hdv, hdm⟩ := hd
  have rv := arr_rvs h1 h2 (hdm m H) sh
  have ra := arr_vals q1 q2 hdv sh
  have b := hs.to s us ts I.kIn (by rw [← q1.length, ← h1.length]; exact l1) (by rw [← q2.length, ← h2.length]; exact l2)
  exact run_g (args := ⟨us, sh.ks.zip ts⟩) F hr hg tk I b ra ⟨by rw [arrG, List.length_map]; exact hs.len, m, st, _, r, rv, k.wish fun _ _ _ z => z⟩
theorem guards_make {B : Around} {C : Addr} {us : List Value} {kw : List (Str × Value)} (h : B.guards = some []) : (B.under (.builtin "type.__call__" ⟨.ref C :: us, kw⟩)).guards = some [] := by
  first
    | exact h
    | (show PySem.pushGuards _ B.guards = _; rw [h]; rfl)
    | simp [Around.under, Code.guards, Code.isGuard, pushGuards, h, guardIds]
def mkM (init : List MV → Sto → R MV) (k : Nat) (args : List MV) (st : Sto) : R MV :=
  bnd (init (.ref st.length :: args) (st ++ [.ins k []])) fun v st1 => match v with | .non => ret (.ref st.length) st1 | _ => none
def unself : Shape → Option Shape
  | ⟨n + 1, ks, arr⟩ => some ⟨n, ks, arr⟩
  | _ => none
theorem cv_mk {sem : List MV → Sto → R MV} {dm : List MV} {ds : List Value} {n : Nat} {ks : List Str} {arr : List Src} {C : Addr} {kc : Nat} (M : Mk X.K C f) (hca : A.ca kc = some C) (F : FnG X.prog X.w X.K X.mg X.base l f fd ps (spM (gc A X) sem ps.length)) (hr : Room (l + 1) X.A) (hg : X.A.guards = some []) (tk : L2N.Takes X W)
    (hs : ShapeOk X.K fd ps ds ⟨n + 1, ks, arr⟩) (hd : Dfs (gc A X) dm ds) :
    CvOk A X W (.ref C) n ks (fun xs zs st => mkM (fun ys st => sem (arrG .non ⟨n + 1, ks, arr⟩ ys zs dm) st) kc xs st) := by
  intro pins σ H s Q m st xs zs vs ws us ts I r h1 q1 h2 q2 l1 l2 k
  obtain ⟨dv, hdv, hdm⟩ := hd
  have nx : H (s.heap.objs.size + 1) = none := I.hok.fresh (Nat.le_succ _)
  have nd : H s.heap.objs.size = none := I.hok.fresh (Nat.le_refl _)
  have kp : ∀ b o, H b = some o → upd (upd H s.heap.objs.size (.own (s.heap.objs.size + 1))) (s.heap.objs.size + 1) (.ins C s.heap.objs.size []) b = some o := fun b o e => by
    rw [upd_ne (ne_of_none e nx), upd_ne (ne_of_none e nd)]; exact e
  obtain ⟨r2, e2⟩ := r.grow (o := .ins kc []) nx kp ⟨C, _, [], hca, upd_same, .nil⟩
  have I2 := Inv.made (C := C) I
  have hself : RV (gc A X) (m ++ [s.heap.objs.size + 1]) (upd (upd H s.heap.objs.size (.own (s.heap.objs.size + 1))) (s.heap.objs.size + 1) (.ins C s.heap.objs.size [])) (.ref st.length) (.ref (s.heap.objs.size + 1)) := .ref (by rw [← r.len]; simp)
  have rv := arr_rvs (.cons hself (h1.mono e2)) (h2.mono e2) (hdm _ _) ⟨n + 1, ks, arr⟩
  have ra := arr_vals (Paired.cons (show RelV (V.ref (s.heap.objs.size + 1)) (Value.ref (s.heap.objs.size + 1)) from rfl) q1) q2 hdv ⟨n + 1, ks, arr⟩
  have b := hs.to { s with heap := (s.heap.push PySem.W.emptyDict).push (PySem.W.instObj C s.heap.objs.size) } (.ref (s.heap.objs.size + 1) :: us) ts I2.kIn (by simp [← q1.length, ← h1.length, l1]) (by rw [← q2.length, ← h2.length]; exact l2)
  have k2 : Run (gc A X) W σ (m ++ [s.heap.objs.size + 1]) (upd (upd H s.heap.objs.size (.own (s.heap.objs.size + 1))) (s.heap.objs.size + 1) (.ins C s.heap.objs.size [])) _ _ := (Run.bnd (show Run (gc A X) W σ m H (bnd _ _) _ from k)).under e2
  have pa := L2N.passAt tk σ
  refine wpAny_call (make_map (f := f) I.kIn M.makes M.init (beq_iff_eq.mp M.fn) (codeAny_mono (F.run _ X.stack _ _ ⟨Value.ref (s.heap.objs.size + 1) :: us, ks.zip ts⟩ _ _ (fun v H2 => v = .non ∧ Q (.ref (s.heap.objs.size + 1)) H2) (fun cls d H' => W cls d σ H') (hr.make C us (ks.zip ts)) (guards_make hg)
    (I2.env0.make C us (ks.zip ts)) b ra ⟨by rw [arrG, List.length_map]; exact hs.len, _, _, _, r2, rv, ?_⟩) fun res s' hq => ?_))
  · refine (k2.wish fun _ _ _ z => z).imp fun v st1 m1 H1 r1 e1 k1 u hu => ?_
    match v, hu, k1 with
    | .non, .non, k1 => exact ⟨rfl, Run.ok k1 .refl r1 _ (hself.mono e1)⟩
    | .bl _, _, k1 => exact k1.elim
    | .int _, _, k1 => exact k1.elim
    | .str _, _, k1 => exact k1.elim
    | .tup _, _, k1 => exact k1.elim
    | .ref _, _, k1 => exact k1.elim
    | .fn _, _, k1 => exact k1.elim
    | .cl _, _, k1 => exact k1.elim
    | .ty _, _, k1 => exact k1.elim
  · match res, hq with
    | .error e, hq => exact pa pins _ _ e s' I2 hq
    | .ok (.ret u), hq =>
      obtain ⟨v, H', I3, rv, ev, q3⟩ := I2.after hq
      subst ev
      exact ⟨rv, ⟨V.ref (s.heap.objs.size + 1), H', I3, rfl, q3⟩⟩
    | .ok .next, hq => exact hq.elim
    | .ok .brk, hq => exact hq.elim
    | .ok .cont, hq => exact hq.elim
end
end CS
namespace CS
open PySem PySem.Spec PyProof.Rows L2
mutual
def lowV (n : Nat) : MV → Bool
  | .tup xs => lowVs n xs
  | .ref i => decide (i < n)
  | _ => true
def lowVs (n : Nat) : List MV → Bool
  | [] => true
  | x :: xs => lowV n x && lowVs n xs
end
def lowFs (n : Nat) : List (Str × MV) → Bool
  | [] => true
  | x :: xs => lowV n x.2 && lowFs n xs
def lowO (n : Nat) : MO → Bool
  | .lst xs => lowVs n xs
  | .frz xs => lowVs n xs
  | .ins _ fs => lowFs n fs
  | .dct => true
mutual
def eqV : MV → MV → Bool
  | .non, .non => true
  | .bl a, .bl b => a == b
  | .int a, .int b => a == b
  | .str a, .str b => a == b
  | .tup a, .tup b => eqVs a b
  | .ref a, .ref b => a == b
  | .fn a, .fn b => a == b
  | .cl a, .cl b => a == b
  | .ty a, .ty b => a == b
  | _, _ => false
def eqVs : List MV → List MV → Bool
  | [], [] => true
  | x :: xs, y :: ys => eqV x y && eqVs xs ys
  | _, _ => false
end
def eqFs : List (Str × MV) → List (Str × MV) → Bool
  | [], [] => true
  | x :: xs, y :: ys => x.1 == y.1 && eqV x.2 y.2 && eqFs xs ys
  | _, _ => false
def eqO : MO → MO → Bool
  | .lst a, .lst b => eqVs a b
  | .frz a, .frz b => eqVs a b
  | .ins k a, .ins l b => k == l && eqFs a b
  | .dct, .dct => true
  | _, _ => false
mutual
theorem eqV_refl : ∀ x : MV, eqV x x = true
  | .non => rfl
  | .bl a => by unfold eqV; exact beq_self_eq_true a
  | .int a => by unfold eqV; exact beq_self_eq_true a
  | .str a => by unfold eqV; exact beq_self_eq_true a
  | .tup a => by unfold eqV; exact eqVs_refl a
  | .ref a => by unfold eqV; exact beq_self_eq_true a
  | .fn a => by unfold eqV; exact beq_self_eq_true a
  | .cl a => by unfold eqV; exact beq_self_eq_true a
  | .ty a => by unfold eqV; exact beq_self_eq_true a
theorem eqVs_refl : ∀ x : List MV, eqVs x x = true
  | [] => rfl
  | x :: xs => by unfold eqVs; rw [eqV_refl x, eqVs_refl xs]; rfl
end
theorem eqFs_refl : ∀ x : List (Str × MV), eqFs x x = true
  | [] => rfl
  | x :: xs => by unfold eqFs; rw [eqV_refl x.2, eqFs_refl xs, beq_self_eq_true]; rfl
theorem eqO_refl : ∀ x : MO, eqO x x = true
  | .lst a => eqVs_refl a
  | .frz a => eqVs_refl a
  | .ins k a => by
    show (k == k && eqFs a a) = true
    rw [beq_self_eq_true, eqFs_refl]; rfl
  | .dct => rfl
mutual
theorem eqV_of : ∀ {x y : MV}, eqV x y = true → x = y
  | .non, y, h => by cases y <;> first | rfl | (unfold eqV at h; cases h)
  | .bl a, y, h => by cases y <;> first | (unfold eqV at h; exact congrArg _ (eq_of_beq h)) | (unfold eqV at h; cases h)
  | .int a, y, h => by cases y <;> first | (unfold eqV at h; exact congrArg _ (eq_of_beq h)) | (unfold eqV at h; cases h)
  | .str a, y, h => by cases y <;> first | (unfold eqV at h; exact congrArg _ (eq_of_beq h)) | (unfold eqV at h; cases h)
  | .tup a, y, h => by cases y <;> first | (unfold eqV at h; exact congrArg _ (eqVs_of h)) | (unfold eqV at h; cases h)
  | .ref a, y, h => by cases y <;> first | (unfold eqV at h; exact congrArg _ (eq_of_beq h)) | (unfold eqV at h; cases h)
  | .fn a, y, h => by cases y <;> first | (unfold eqV at h; exact congrArg _ (eq_of_beq h)) | (unfold eqV at h; cases h)
  | .cl a, y, h => by cases y <;> first | (unfold eqV at h; exact congrArg _ (eq_of_beq h)) | (unfold eqV at h; cases h)
  | .ty a, y, h => by cases y <;> first | (unfold eqV at h; exact congrArg _ (eq_of_beq h)) | (unfold eqV at h; cases h)
theorem eqVs_of : ∀ {x y : List MV}, eqVs x y = true → x = y
  | [], [], _ => rfl
  | [], _ :: _, h => by unfold eqVs at h; cases h
  | _ :: _, [], h => by unfold eqVs at h; cases h
  | x :: xs, y :: ys, h => by
    unfold eqVs at h
    rw [Bool.and_eq_true] at h
    rw [eqV_of h.1, eqVs_of h.2]
end
theorem eqFs_of : ∀ {x y : List (Str × MV)}, eqFs x y = true → x = y
  | [], [], _ => rfl
  | [], _ :: _, h => by unfold eqFs at h; cases h
  | _ :: _, [], h => by unfold eqFs at h; cases h
  | (p, q) :: xs, (r, s) :: ys, h => by
    unfold eqFs at h
    rw [Bool.and_eq_true, Bool.and_eq_true] at h
    have h1 : p = r := eq_of_beq h.1.1
    have h2 : q = s := eqV_of h.1.2
    rw [h1, h2, eqFs_of h.2]
theorem eqO_of : ∀ {x y : MO}, eqO x y = true → x = y
  | .lst a, y, h => by cases y <;> first | (exact congrArg _ (eqVs_of h)) | (unfold eqO at h; cases h)
  | .frz a, y, h => by cases y <;> first | (exact congrArg _ (eqVs_of h)) | (unfold eqO at h; cases h)
  | .ins k a, y, h => by
    cases y with
    | lst => unfold eqO at h; cases h
    | frz => unfold eqO at h; cases h
    | ins l b =>
      unfold eqO at h
      rw [Bool.and_eq_true] at h
      rw [eq_of_beq h.1, eqFs_of h.2]
    | dct => unfold eqO at h; cases h
  | .dct, y, h => by cases y <;> first | rfl | (unfold eqO at h; cases h)
def gcOk (st st' : Sto) : Bool := (List.range st.length).all fun i => match st[i]?, st'[i]? with
  | some a, some b => eqO b a || lowO st.length b
  | _, _ => false
def gcS (st st' : Sto) : Sto := if gcOk st st' then st'.take st.length else st'
mutual
theorem RV.low {c : GC} {m m1 : List Addr} {H : Hp} (e : ∀ i, i < n → m1[i]? = m[i]?) : ∀ {x : MV} {v : V}, RV c m H x v → lowV n x = true → RV c m1 H x v
  | _, _, .non, _ => .non
  | _, _, .bl b, _ => .bl b
  | _, _, .int i, _ => .int i
  | _, _, .str x, _ => .str x
  | _, _, .tup h r, k => .tup h (RVs.low e r (by unfold lowV at k; exact k))
  | _, _, .ref h, k => .ref ((e _ (by unfold lowV at k; exact of_decide_eq_true k)).trans h)
  | _, _, .fn h, _ => .fn h
  | _, _, .cl h, _ => .cl h
  | _, _, .ty n, _ => .ty n
theorem RVs.low {c : GC} {m m1 : List Addr} {H : Hp} (e : ∀ i, i < n → m1[i]? = m[i]?) : ∀ {xs : List MV} {vs : List V}, RVs c m H xs vs → lowVs n xs = true → RVs c m1 H xs vs
  | _, _, .nil, _ => .nil
  | _, _, .cons h r, k => by
    unfold lowVs at k
    rw [Bool.and_eq_true] at k
    exact .cons (RV.low e h k.1) (RVs.low e r k.2)
end
theorem RF.low {c : GC} {m m1 : List Addr} {H : Hp} {n : Nat} (e : ∀ i, i < n → m1[i]? = m[i]?) : ∀ {fs : List (Str × MV)} {gs : List (Str × V)}, RF c m H fs gs → lowFs n fs = true → RF c m1 H fs gs
  | _, _, .nil, _ => .nil
  | _, _, .cons h r, k => by
    unfold lowFs at k
    rw [Bool.and_eq_true] at k
    exact .cons ⟨h.1, h.2.low e k.1⟩ (RF.low e r k.2)
theorem RO.low {c : GC} {m m1 : List Addr} {H : Hp} {n : Nat} {a : Addr} {o : MO} (e : ∀ i, i < n → m1[i]? = m[i]?) (r : RO c m H a o) (k : lowO n o = true) : RO c m1 H a o := by
  cases o with
  | lst xs => obtain ⟨vs, h, q⟩ := r; exact ⟨vs, h, q.low e k⟩
  | frz xs => obtain ⟨u, vs, h, q⟩ := r; exact ⟨u, vs, h, q.low e k⟩
  | ins i fs => obtain ⟨C, dx, gs, h0, h, q⟩ := r; exact ⟨C, dx, gs, h0, h, RF.low e q k⟩
  | dct => exact r
mutual
theorem RV.isLow {c : GC} {m : List Addr} {H : Hp} : ∀ {x : MV} {v : V}, RV c m H x v → lowV m.length x = true
  | _, _, .non => by unfold lowV; rfl
  | _, _, .bl b => by unfold lowV; rfl
  | _, _, .int i => by unfold lowV; rfl
  | _, _, .str x => by unfold lowV; rfl
  | _, _, .tup h r => by unfold lowV; exact RVs.isLow r
  | _, _, .ref h => by unfold lowV; exact decide_eq_true (List.getElem?_eq_some_iff.mp h).1
  | _, _, .fn h => by unfold lowV; rfl
  | _, _, .cl h => by unfold lowV; rfl
  | _, _, .ty n => by unfold lowV; rfl
theorem RVs.isLow {c : GC} {m : List Addr} {H : Hp} : ∀ {xs : List MV} {vs : List V}, RVs c m H xs vs → lowVs m.length xs = true
  | _, _, .nil => rfl
  | _, _, .cons h r => by unfold lowVs; rw [RV.isLow h, RVs.isLow r]; rfl
end
theorem RF.isLow {c : GC} {m : List Addr} {H : Hp} : ∀ {fs : List (Str × MV)} {gs : List (Str × V)}, RF c m H fs gs → lowFs m.length fs = true
  | _, _, .nil => rfl
  | _, _, .cons h r => by unfold lowFs; rw [h.2.isLow, RF.isLow r]; rfl
theorem RO.isLow {c : GC} {m : List Addr} {H : Hp} {a : Addr} {o : MO} (r : RO c m H a o) : lowO m.length o = true := by
  cases o with
  | lst xs => obtain ⟨vs, h, q⟩ := r; exact q.isLow
  | frz xs => obtain ⟨u, vs, h, q⟩ := r; exact q.isLow
  | ins i fs => obtain ⟨C, dx, gs, h0, h, q⟩ := r; exact RF.isLow q
  | dct => rfl
section
variable {c : GC} {m m' : List Addr} {st st' : Sto} {H H' : Hp}
def gcM (st st' : Sto) (m' : List Addr) : List Addr := if gcOk st st' then m'.take st.length else m'
theorem gc_rel (r : Rel c m st H) (e : Ext c m H m' H') (r' : Rel c m' st' H') : Rel c (gcM st st' m') (gcS st st') H' ∧ Ext c m H (gcM st st' m') H' := by
  unfold gcM gcS
  by_cases g : gcOk st st' = true
  · rw [if_pos g, if_pos g]
    obtain ⟨t, rfl⟩ := e.pre
    have hl : (m ++ t).take st.length = m := by rw [← r.len, List.take_left]
    have at_ : ∀ i, i < st.length → m[i]? = (m ++ t)[i]? := fun i hi => by rw [List.getElem?_append_left (by rw [r.len]; exact hi)]
    rw [hl]
    have e' : Ext c m H m H' := ⟨⟨[], by simp⟩, e.tup, fun a h => .inl h, e.frame, e.live⟩
    refine ⟨⟨?_, r.nd, fun i o h => ?_, r.gr.trans e', r'.tabs⟩, e'⟩
    · rw [List.length_take, r.len, ← r'.len, List.length_append, r.len]; omega
    · have hi : i < st.length := by
        have := (List.getElem?_eq_some_iff.mp h).1
        rw [List.length_take] at this; omega
      rw [List.getElem?_take_of_lt hi] at h
      obtain ⟨a, ha, q⟩ := r'.obj i o h
      refine ⟨a, (at_ i hi).trans ha, RO.low at_ q ?_⟩
      unfold gcOk at g
      rw [List.all_eq_true] at g
      have gi := g i (List.mem_range.mpr hi)
      rw [h] at gi
      cases q0 : st[i]? with
      | none => rw [q0] at gi; cases gi
      | some o0 =>
        rw [q0] at gi
        simp only [Bool.or_eq_true] at gi
        rcases gi with z | z
        · have := eqO_of z
          subst this
          obtain ⟨b, hb, qb⟩ := r.obj i o q0
          rw [← r.len]; exact qb.isLow
        · exact z
  · rw [if_neg g, if_neg g]
    exact ⟨r', e⟩
theorem gcM_at (r : Rel c m st H) (e : Ext c m H m' H') : ∀ i, i < st.length → (gcM st st' m')[i]? = m'[i]? := fun i hi => by
  unfold gcM
  split
  · rw [List.getElem?_take_of_lt hi]
  · rfl
end
def lowX (n : Nat) (x : MX) : Bool := lowFs n x.2
def fin (st : Sto) : SR → R MV
  | none => none
  | some (.nx, _, st') => ret .non (gcS st st')
  | some (.rt v, _, st') => if lowV st.length v then ret v (gcS st st') else ret v st'
  | some (.exc x, _, st') => if lowX st.length x then some (.error x, gcS st st') else some (.error x, st')
  | some (.bk, _, _) => none
  | some (.ct, _, _) => none
def start (n : Nat) (args : List MV) : MEnv := args.map some ++ List.replicate (n - args.length) none
def defM (n : Nat) (d : DS) (args : List MV) (st : Sto) : R MV := fin st (d (start n args) st)
theorem fin_of {c : GC} {W : WX} {W' : WX} {σ : L2.St} {m : List Addr} {st : Sto} {H : Hp} {r : SR} {Q : VK} (rl : Rel c m st H) (h : Run c W σ m H (fin st r) (kV c Q)) (hW : ∀ cls d σ' H', W cls d σ H' → W' cls d σ' H') :
    SRun c W' { nx := fun _ H' => Q .non H', rt := Q } m H r := by
  match r, h with
  | none, h => exact h
  | some (.nx, ρ, st'), h =>
    intro m' H' σ' e r' _
    obtain ⟨r2, e2⟩ := gc_rel rl e r'
    exact Run.ok h e2 r2 _ .non
  | some (.rt v, ρ, st'), h =>
    intro m' H' u e r' hv
    unfold fin at h
    simp only at h
    split at h
    · rename_i lv
      obtain ⟨r2, e2⟩ := gc_rel rl e r'
      exact Run.ok h e2 r2 u (RV.low (gcM_at rl e) hv lv)
    · exact Run.ok h e r' u hv
  | some (.exc x, ρ, st'), h =>
    intro m' H' σ' cls d e r' _ hx
    unfold fin at h
    simp only at h
    split at h
    · rename_i lv
      obtain ⟨r2, e2⟩ := gc_rel rl e r'
      refine hW _ _ _ _ (h _ _ cls d e2 r2 ?_)
      obtain ⟨C, hC, hc, z⟩ := hx
      refine ⟨C, hC, hc, z.imp id fun ⟨dd, gs, a1, a2, a3⟩ => ⟨dd, gs, a1, a2, RF.low (gcM_at rl e) a3 lv⟩⟩
    · exact hW _ _ _ _ (h _ _ cls d e r' hx)
  | some (.bk, _, _), h => exact (show False from h).elim
  | some (.ct, _, _), h => exact (show False from h).elim
theorem start_env {c : GC} {m : List Addr} {H : Hp} {xs : List MV} {vs : List V} (r : RVs c m H xs vs) (N : List Str) : REnv c m H (start N.length xs) (L2.start N vs) := by
  unfold start L2.start
  rw [r.length]
  refine ⟨by simp [r.length], fun i x h => ?_⟩
  by_cases hi : i < xs.length
  · rw [List.getElem?_append_left (by simpa using hi), List.getElem?_map] at h
    cases q : xs[i]? with
    | none => rw [q] at h; cases h
    | some y =>
      rw [q] at h
      cases h
      obtain ⟨v, h1, h2⟩ := r.get' q
      refine ⟨v, ?_, h2⟩
      rw [List.getElem?_append_left (by rw [List.length_map, ← r.length]; exact hi), List.getElem?_map, h1]
      rfl
  · rw [List.getElem?_append_right (by simpa using hi), List.getElem?_replicate] at h
    split at h <;> cases h
section
variable {P : Program} {w : World} {K : PySem.W.Frag} {mg : Str → Option Value} {base : Heap}
structure Ctx (P : Program) (w : World) (K : PySem.W.Frag) (mg : Str → Option Value) (base : Heap) (k : Nat) (N : List Str) (qual : Str) (scope : Scope) (X : Cx) (W : WX) : Prop where
  prog : X.prog = P
  w : X.w = w
  K : X.K = K
  mg : X.mg = mg
  base : X.base = base
  N : X.N = N
  scope : X.env.scope = scope
  room : Room k X.A
  guards : X.A.guards = some []
  tk : L2N.Takes X W
  own : PassesOwn (model X.prog X.w) X.A X.env X.xe
  calm : X.calm = true
theorem fnG_of {A : AD} {x qual : Str} {params : Arguments} {body : List Stmt} {scope : Scope} {dvs : List V} {kws : List (Str × V)} {f : Addr} {fd : FuncData} {N ps : List Str} {k : Nat} {den : DS} (F : FunD K x qual params body scope dvs kws f fd) (S : FnScope N ps scope)
    (hbody : ∀ (cdv : Value) (Ar : Around) (outer : List Env) (s : Shared) (H : Hp) (E : XK), Room k (Ar.deeper (envOfC qual scope s.heap.objs.size f cdv)) → (Ar.deeper (envOfC qual scope s.heap.objs.size f cdv)).guards = some [] → fd.code = cdv →
      PMSs A (cxOf (L2N.CX P w) P w K mg base N qual scope f cdv Ar outer s H E) (fun cls d _ H' => E cls d H') body den) :
    FnG P w K mg base (k + 1) f fd ps (spM (gcA A P w K mg base) (defM N.length den) ps.length) := by
  refine ⟨fun vs H Q E h => h.1, fun Ar outer s H args us vs Q E hr hg e0 hb r h => ?_⟩
  obtain ⟨oc, od, dV, kV, doc, pm, an, cdv, ct, osl, rfl, lk, hcd, _, _⟩ := F.ex
  refine LamX.run_ofS lk hcd S hr e0 hb r h.1 fun hr2 => ⟨_, hbody cdv Ar outer s H E hr2 hg rfl, ?_⟩
  obtain ⟨hl, m, st, xs, rl, rx, k⟩ := h
  exact ⟨m, _, st, rl, start_env rx N, fin_of rl k fun _ _ _ _ z => z⟩
end
end CS
namespace CS
open PySem PySem.Spec PyProof.Rows L2
theorem Run.known {c : GC} {W : WX} {σ : L2.St} {m : List Addr} {H : Hp} {α : Type} {r : R α} {K : Kn α} (h : Run c W σ m H r K) : Run c W σ m H r (fun a st m' H' => r = some (.ok a, st) ∧ K a st m' H') := by
  match r, h with
  | none, h => exact h
  | some (.error x, st), h => exact h
  | some (.ok a, st), h => exact fun m1 H1 e1 r1 => ⟨rfl, h m1 H1 e1 r1⟩
def LenA (fa : DA) (n : Nat) : Prop := ∀ ρ st xs st', fa ρ st = some (.ok xs, st') → xs.length = n
theorem lenA_nil : LenA aNil 0 := fun ρ st xs st' h => by cases h; rfl
theorem lenA_cons {f : DE} {g : DA} {n : Nat} (h : LenA g n) : LenA (aCons f g) (n + 1) := fun ρ st xs st' e => by
  unfold aCons bnd at e
  split at e
  · cases e
  · cases e
  · rename_i a st1 _
    dsimp only at e
    split at e
    · cases e
    · cases e
    · rename_i ys st2 h2
      cases e
      rw [List.length_cons, h _ _ _ _ h2]
section
variable {A : AD} {X : Cx} {W : WX} {u : Value} {x : Str} {p pos : Pos} {e : Expr} {es : List Expr} {n : Nat} {fa fk : DA} {g : List MV → Sto → R MV}
abbrev PMK (A : AD) (X : Cx) (W : WX) (kws : List Keyword) (f : DA) : Prop := PK X kws (tMA (gc A X) W f)
theorem _root_.L2.PK.imp {X : Cx} {e : List Keyword} {t t' : TA} (h : PK X e t) (q : ∀ σ H Q, t' σ H Q → t σ H Q) : PK X e t' := ⟨fun pos pins s σ H Q I w => h.run pos pins s σ H Q I (q _ _ _ w)⟩
theorem pmk_nil : PMK A X W [] aNil := pk_nil.imp fun σ H Q ⟨m, ρ, st, r, v, k⟩ => Run.ok k .refl r _ .nil
theorem pmk_cons {nm : Option Str} {kpos : Pos} {kws : List Keyword} {fe : DE} {g : DA} (ha : PM A X W e fe) (hr : PMK A X W kws g) : PMK A X W (⟨nm, e, kpos⟩ :: kws) (aCons fe g) := by
  refine (pk_cons ha hr).imp fun σ H Q ⟨m, ρ, st, r, v, k⟩ => ?_
  refine tM.thenG r v k fun x u st1 m1 H1 r1 e1 v1 hu k1 => ?_
  refine tMA.thenG r1 v1 k1 fun xs us st2 m2 H2 r2 e2 v2 hus k2 => ?_
  exact Run.ok k2 .refl r2 _ (.cons (hu.mono e2) hus)
abbrev AftA (A : AD) (X : Cx) (W : WX) (σ : L2.St) (n : Nat) (g : List MV → Sto → R MV) (Q : VK) : List V → Hp → Prop := fun vs H1 => ∃ m1 st1 xs, Rel (gc A X) m1 st1 H1 ∧ RVs (gc A X) m1 H1 xs vs ∧ xs.length = n ∧ Run (gc A X) W σ m1 H1 (g xs st1) (kV (gc A X) Q)
theorem aftA_of {σ : L2.St} {H : Hp} {Q : VK} (hl : LenA fa n) (h : tM (gc A X) W (eCall g fa) σ H Q) : tMA (gc A X) W fa σ H (AftA A X W σ n g Q) := by
  obtain ⟨m, ρ, st, r, v, k⟩ := h
  refine ⟨m, ρ, st, r, v, (Run.bnd k).known.imp fun xs st1 m1 H1 r1 e1 ⟨eq, k1⟩ us hus => ?_⟩
  exact ⟨m1, st1, xs, r1, hus, hl _ _ _ _ eq, k1⟩
theorem pm_callP (h : CvOk A X W u n [] (fun xs _ st => g xs st)) (hg : Gl X x) (hm : X.mg x = some u) (hk : PySem.W.keepIn X.K u = true) (ha : PMA A X W (e :: es) fa) (hl : LenA fa n) (hdb : (x == ("__debug__" : Str)) = false)
    (he : starEach (e :: es) X.env = (false, eval e X.env) :: starEach es X.env) (hpl : (backTo pos (starEach es X.env)).any (·.1) = false) : PM A X W (.Call (.Name x p) (e :: es) [] pos) (eCall g fa) := by
  refine ⟨fun pins s σ H Q I w => ?_⟩
  refine wpAny_Call_Name_kw (ld_glob I hg hm ?_ hdb)
  refine PySem.W.callWith_K (h₀ := X.base) I.ok.mod.kin hk (thn (ha.run pos pins s σ H _ I (aftA_of hl w)) fun us s1 hh => ?_) he hpl
  obtain ⟨vs, H1, I1, rv, m1, st1, xs, r1, hx, hn, k1⟩ := hh
  exact ⟨I1.kIn, h pins σ H1 s1 Q m1 st1 xs [] vs [] us [] I1 r1 hx rv .nil .nil hn rfl k1⟩
theorem pm_call0 (h : CvOk A X W u 0 [] (fun xs _ st => g xs st)) (hg : Gl X x) (hm : X.mg x = some u) (hk : PySem.W.keepIn X.K u = true) (hdb : (x == ("__debug__" : Str)) = false) : PM A X W (.Call (.Name x p) [] [] pos) (eCall g aNil) := by
  refine ⟨fun pins s σ H Q I ⟨m, ρ, st, r, v, k⟩ => ?_⟩
  refine wpAny_Call_Name_kw (ld_glob I hg hm ?_ hdb)
  exact PySem.W.callWith_K0 I.kIn hk (h pins σ H s Q m st [] [] [] [] [] [] I r .nil .nil .nil .nil rfl rfl k)
def eCallK (g : List MV → List MV → Sto → R MV) (fa fk : DA) : DE := fun ρ st => bnd (fa ρ st) fun xs st1 => bnd (fk ρ st1) fun zs st2 => g xs zs st2
variable {gk : List MV → List MV → Sto → R MV} {ks : List Str} {kws : List Keyword}
theorem pm_callK (h : CvOk A X W u n ks gk) (hg : Gl X x) (hm : X.mg x = some u) (hk : PySem.W.keepIn X.K u = true) (ha : PMA A X W (e :: es) fa) (hl : LenA fa n) (hkw : PMK A X W kws fk) (hlk : LenA fk ks.length)
    (hall : (backToKw pos (keywordEach kws X.env)).all (·.1.isSome) = true) (hks : (backToKw pos (keywordEach kws X.env)).filterMap (·.1) = ks) (hdb : (x == ("__debug__" : Str)) = false)
    (he : starEach (e :: es) X.env = (false, eval e X.env) :: starEach es X.env) (hpl : ((backTo pos (starEach (e :: es) X.env)).any (·.1) || (backToKw pos (keywordEach kws X.env)).any (·.1.isNone)) = false) :
    PM A X W (.Call (.Name x p) (e :: es) kws pos) (eCallK gk fa fk) := by
  refine ⟨fun pins s σ H Q I ⟨m, ρ, st, r, v, k⟩ => ?_⟩
  refine wpAny_Call_Name_kw (ld_glob I hg hm ?_ hdb)
  have w : tMA (gc A X) W fa σ H (fun vs H1 => ∃ m1 st1 xs, Rel (gc A X) m1 st1 H1 ∧ REnv (gc A X) m1 H1 ρ σ ∧ RVs (gc A X) m1 H1 xs vs ∧ xs.length = n ∧ Run (gc A X) W σ m1 H1 (bnd (fk ρ st1) fun zs st2 => gk xs zs st2) (kV (gc A X) Q)) :=
    ⟨m, ρ, st, r, v, (Run.bnd k).known.imp fun xs st1 m1 H1 r1 e1 ⟨eq, k1⟩ us hus => ⟨m1, st1, xs, r1, v.mono e1, hus, hl _ _ _ _ eq, k1⟩⟩
  refine PySem.W.callWith_KW (h₀ := X.base) I.ok.mod.kin hk hall (thn (ha.run pos pins s σ H _ I w) fun us s1 hh => ?_) hpl he
  obtain ⟨vs, H1, I1, rv, m1, st1, xs, r1, v1, hx, hn, k1⟩ := hh
  have w2 : tMA (gc A X) W fk σ H1 (fun ws H2 => ∃ m2 st2 zs, Rel (gc A X) m2 st2 H2 ∧ RVs (gc A X) m2 H2 xs vs ∧ RVs (gc A X) m2 H2 zs ws ∧ zs.length = ks.length ∧ Run (gc A X) W σ m2 H2 (gk xs zs st2) (kV (gc A X) Q)) :=
    ⟨m1, ρ, st1, r1, v1, (Run.bnd k1).known.imp fun zs st2 m2 H2 r2 e2 ⟨eq, k2⟩ us hus => ⟨m2, st2, zs, r2, hx.mono e2, hus, hlk _ _ _ _ eq, k2⟩⟩
  refine thn (hkw.run pos pins s1 σ H1 _ I1 w2) fun ws s2 hh2 => ?_
  obtain ⟨zv, H2, I2, rz, m2, st2, zs, r2, hx2, hz, hzl, k2⟩ := hh2
  rw [hks]
  exact ⟨I2.kIn, h pins σ H2 s2 Q m2 st2 xs zs vs zv us ws I2 r2 hx2 rv hz rz hn hzl k2⟩
theorem pm_callK0 (h : CvOk A X W u 0 ks gk) (hg : Gl X x) (hm : X.mg x = some u) (hk : PySem.W.keepIn X.K u = true) (hkw : PMK A X W kws fk) (hlk : LenA fk ks.length)
    (hall : (backToKw pos (keywordEach kws X.env)).all (·.1.isSome) = true) (hks : (backToKw pos (keywordEach kws X.env)).filterMap (·.1) = ks) (hdb : (x == ("__debug__" : Str)) = false)
    (hpl : ((backTo pos (starEach [] X.env)).any (·.1) || (backToKw pos (keywordEach kws X.env)).any (·.1.isNone)) = false) :
    PM A X W (.Call (.Name x p) [] kws pos) (eCallK gk aNil fk) := by
  refine ⟨fun pins s σ H Q I ⟨m, ρ, st, r, v, k⟩ => ?_⟩
  refine wpAny_Call_Name_kw (ld_glob I hg hm ?_ hdb)
  have w2 : tMA (gc A X) W fk σ H (fun ws H2 => ∃ m2 st2 zs, Rel (gc A X) m2 st2 H2 ∧ RVs (gc A X) m2 H2 zs ws ∧ zs.length = ks.length ∧ Run (gc A X) W σ m2 H2 (gk [] zs st2) (kV (gc A X) Q)) :=
    ⟨m, ρ, st, r, v, (Run.bnd (r := fk ρ st) (f := fun zs st2 => gk [] zs st2) k).known.imp fun zs st2 m2 H2 r2 e2 ⟨eq, k2⟩ us hus => ⟨m2, st2, zs, r2, hus, hlk _ _ _ _ eq, k2⟩⟩
  refine PySem.W.callWith_KW0 (h₀ := X.base) I.ok.mod.kin hk hall (thn (hkw.run pos pins s σ H _ I w2) fun ws s2 hh2 => ?_) hpl
  obtain ⟨zv, H2, I2, rz, m2, st2, zs, r2, hz, hzl, k2⟩ := hh2
  rw [hks]
  exact ⟨I2.kIn, h pins σ H2 s2 Q m2 st2 [] zs [] zv [] ws I2 r2 .nil .nil hz rz rfl hzl k2⟩
theorem cv_pos {sem : List MV → Sto → R MV} {l : Nat} {f : Addr} {fd : FuncData} {ps : List Str} (F : FnG X.prog X.w X.K X.mg X.base l f fd ps (spM (gc A X) sem ps.length)) (hr : Room l X.A) (hg : X.A.guards = some []) (tk : L2N.Takes X W) (hb : Binds X.K fd ps []) :
    CvOk A X W (.ref f) ps.length [] (fun xs _ st => sem xs st) := by
  intro pins σ H s Q m st xs zs vs ws us ts I r h1 q1 h2 q2 l1 l2 k
  have hz : ts = [] := by
    cases ts with
    | nil => rfl
    | cons a b => rw [h2.length, q2.length] at l2; cases l2
  subst hz
  have lu : (us ++ []).length = ps.length := by rw [List.append_nil, ← q1.length, ← h1.length]; exact l1
  have b := hb s us I.kIn lu
  rw [List.append_nil] at b
  exact run_g (args := ⟨us, []⟩) F hr hg tk I b q1 ⟨by rw [← h1.length]; exact l1, m, st, _, r, h1, k.wish fun _ _ _ z => z⟩
def FlsOk (A : AD) (K : PySem.W.Frag) (ks : List Nat) (f : Str) : Prop := ∀ k ∈ ks, ∀ C, A.ca k = some C → Cls K C ∧ NoAttr K C f
def eFld (ks : List Nat) (f : Str) (fa : DE) : DE := fun ρ st => bnd (fa ρ st) fun x st1 => match x with
  | .ref i => (match st1[i]? with
    | some (.ins k fs) => if ks.contains k then (match fs.lookup f with | some v => ret v st1 | none => none) else none
    | _ => none)
  | _ => none
theorem pm_fld {kc : List Nat} {f : Str} {fe : DE} (hf : FlsOk A X.K kc f) (he : PM A X W e fe) (hb : attributeBase e f X.env (eval e X.env) = eval e X.env) : PM A X W (.Attribute e f pos) (eFld kc f fe) := by
  refine (pe_fld he hb).imp fun σ H Q ⟨m, ρ, st, r, v, k⟩ => ?_
  refine tM.then r v k fun x u st1 m1 H1 r1 e1 v1 hu k1 => ?_
  cases x with
  | ref i =>
    cases hu with
    | @ref i a hi =>
    dsimp only at k1
    split at k1
    · rename_i kk fs hs
      split at k1
      · rename_i hk
        obtain ⟨C, dx, gs, h0, h1, h2⟩ := r1.ins hs hi
        obtain ⟨c1, c2⟩ := hf kk (by simpa using hk) C h0
        split at k1
        · rename_i w hl
          obtain ⟨u, hu, rw'⟩ := RF.look h2 hl
          exact ⟨a, C, dx, gs, u, rfl, h1, c1, c2, hu, Run.ok k1 .refl r1 u rw'⟩
        · exact k1.elim
      · exact k1.elim
    · exact k1.elim
  | _ => exact k1.elim
def sFl (ks : List Nat) (f : Str) (fo fv : DE) : DS := fun ρ st => sb ρ (fv ρ st) fun y st1 => sb ρ (fo ρ st1) fun x st2 => match x with
  | .ref i => (match st2[i]? with
    | some (.ins k fs) => if ks.contains k && decide (fs.length < 1000) then some (.nx, ρ, st2.set i (.ins k (putM f y fs))) else none
    | _ => none)
  | _ => none
theorem pms_fld {kc : List Nat} {f : Str} {o value : Expr} {fo fv : DE} {pos' : Pos} (hf : FlsOk A X.K kc f) (ho : PM A X W o fo) (hv : PM A X W value fv) (hs : swapsWith value (some (.Attribute o f pos')) pos.line X.env = pure false) : PMS A X W (.Assign [.Attribute o f pos'] value pos) (sFl kc f fo fv) := by
  refine (ps_fld ho hv hs).imp fun D σ H ⟨m, ρ, st, r, w, k⟩ => ?_
  refine ⟨m, ρ, st, r, w, (SRun.sb k w).imp fun y st1 m1 H1 r1 e1 k1 uy hy => ?_⟩
  refine ⟨m1, ρ, st1, r1, w.mono e1, (SRun.sb k1 (w.mono e1)).imp fun x st2 m2 H2 r2 e2 k2 ux hx => ?_⟩
  cases x with
  | ref i =>
    cases hx with
    | @ref i a hi =>
    dsimp only at k2
    split at k2
    · rename_i kk fs hs
      split at k2
      · rename_i hk
        rw [Bool.and_eq_true] at hk
        obtain ⟨C, dx, gs, h0, h1, h2⟩ := r2.ins hs hi
        obtain ⟨c1, c2⟩ := hf kk (by simpa using hk.1) C h0
        have hl : gs.length < 1000 := by rw [← RF.len h2]; exact of_decide_eq_true hk.2
        refine ⟨a, C, dx, gs, rfl, h1, c1, c2, hl, ?_⟩
        obtain ⟨r3, e3⟩ := r2.write (o' := .ins kk (putM f y fs)) (u := .ins C dx (putF f uy gs)) hi hs (fun _ z => by rw [h1] at z; cases z) (fun _ _ z => by rw [h1] at z; cases z)
          fun e => ⟨C, dx, _, h0, upd_same, RF.mono e (RF.put (hy.mono e2) h2)⟩
        exact k2 m2 _ σ e3 r3 (w.mono (e1.trans (e2.trans e3)))
      · exact k2.elim
    · exact k2.elim
  | _ => exact k2.elim
def MtsOk (A : AD) (X : Cx) (W : WX) (m : Str) (n : Nat) (t : List (Nat × (List MV → Sto → R MV))) : Prop :=
  ∀ k g, t.lookup k = some g → ∀ C, A.ca k = some C → ∃ f, Cls X.K C ∧ Meth X.K C m f ∧ CvOk A X W (.ref f) n [] (fun xs _ st => g xs st)
def eMth (t : List (Nat × (List MV → Sto → R MV))) (m : Str) (fo : DE) (fa : DA) : DE := fun ρ st => bnd (fo ρ st) fun x st1 => match x with
  | .ref i => (match st1[i]? with
    | some (.ins k fs) => (match t.lookup k, fs.lookup m with
      | some g, none => bnd (fa ρ st1) fun xs st2 => g (x :: xs) st2
      | _, _ => none)
    | _ => none)
  | _ => none
theorem pm_mth {t : List (Nat × (List MV → Sto → R MV))} {o : Expr} {fo : DE} {mt : Str} {apos : Pos} {pl : Sem Bool} (ht : MtsOk A X W mt (n + 1) t) (ho : PM A X W o fo) (ha : PMA A X W (e :: es) fa) (hl : LenA fa n)
    (hst : starEach (e :: es) X.env = (false, eval e X.env) :: starEach es X.env) (hpl : (backTo pos (starEach es X.env)).any (·.1) = false)
    (hev : eval (.Call (.Attribute o mt apos) (e :: es) [] pos) X.env = (do
      let ov ← eval o X.env
      standAt apos.atName
      let (f, first) ← holding [ov] (getMethod ov mt pl)
      callWith pos f first (backTo pos (starEach (e :: es) X.env)) (backToKw pos (keywordEach [] X.env)))) :
    PM A X W (.Call (.Attribute o mt apos) (e :: es) [] pos) (eMth t mt fo fa) := by
  refine ⟨fun pins s σ H Q I ⟨m, ρ, st, r, v, k⟩ => ?_⟩
  have w : tM (gc A X) W fo σ H (fun u H1 => ∃ m1 st1 x, Rel (gc A X) m1 st1 H1 ∧ REnv (gc A X) m1 H1 ρ σ ∧ RV (gc A X) m1 H1 x u ∧ Run (gc A X) W σ m1 H1 (match x with
      | .ref i => (match st1[i]? with
        | some (.ins k fs) => (match t.lookup k, fs.lookup mt with
          | some g, none => bnd (fa ρ st1) fun xs st2 => g (x :: xs) st2
          | _, _ => none)
        | _ => none)
      | _ => none) (kV (gc A X) Q)) := tM.thenG r v k fun x u st1 m1 H1 r1 e1 v1 hu k1 => ⟨m1, st1, x, r1, v1, hu, k1⟩
  refine PySem.W.methodCall_KW (pl := pl) (thn (ho.run pins s σ H _ I w) fun ov s1 hh => ?_) hev
  obtain ⟨u, H1, I1, ru, m1, st1, x, r1, v1, hu, k1⟩ := hh
  cases x with
  | ref i =>
    cases hu with
    | @ref i a hi =>
    obtain rfl : ov = Value.ref a := ru
    dsimp only at k1
    split at k1
    · rename_i kk fs hs
      split at k1
      · rename_i g hg hn
        obtain ⟨C, dx, gs, h0, h1, h2⟩ := r1.ins hs hi
        obtain ⟨f, c1, c2, cv⟩ := ht kk g hg C h0
        refine getmeth_ok I1 h1 c1 c2 (RF.none h2 hn) ?_
        have w2 : tMA (gc A X) W fa σ H1 (fun vs H2 => ∃ m2 st2 xs, Rel (gc A X) m2 st2 H2 ∧ RVs (gc A X) m2 H2 (.ref i :: xs) (.ref a :: vs) ∧ xs.length = n ∧ Run (gc A X) W σ m2 H2 (g (.ref i :: xs) st2) (kV (gc A X) Q)) :=
          ⟨m1, ρ, st1, r1, v1, (Run.bnd k1).known.imp fun xs st2 m2 H2 r2 e2 ⟨eq, k2⟩ us hus => ⟨m2, st2, xs, r2, .cons (.ref (e2.at hi)) hus, hl _ _ _ _ eq, k2⟩⟩
        refine PySem.W.callWith_K (first := [.ref a]) (h₀ := X.base) I.ok.mod.kin c2.kp (thn (ha.run pos pins s1 σ H1 _ I1 w2) fun us s2 hh2 => ?_) hst hpl
        obtain ⟨vs, H2, I2, rv, m2, st2, xs, r2, hx, hn2, k2⟩ := hh2
        exact ⟨I2.kIn, cv pins σ H2 s2 Q m2 st2 _ [] _ [] (.ref a :: us) [] I2 r2 hx (.cons rfl rv) .nil .nil (by rw [List.length_cons, hn2]) rfl k2⟩
      · exact k1.elim
    · exact k1.elim
  | _ => exact k1.elim
theorem pm_mth0 {t : List (Nat × (List MV → Sto → R MV))} {o : Expr} {fo : DE} {mt : Str} {apos : Pos} {pl : Sem Bool} (ht : MtsOk A X W mt 1 t) (ho : PM A X W o fo)
    (hev : eval (.Call (.Attribute o mt apos) [] [] pos) X.env = (do
      let ov ← eval o X.env
      standAt apos.atName
      let (f, first) ← holding [ov] (getMethod ov mt pl)
      callWith pos f first (backTo pos (starEach [] X.env)) (backToKw pos (keywordEach [] X.env)))) :
    PM A X W (.Call (.Attribute o mt apos) [] [] pos) (eMth t mt fo aNil) := by
  refine ⟨fun pins s σ H Q I ⟨m, ρ, st, r, v, k⟩ => ?_⟩
  have w : tM (gc A X) W fo σ H (fun u H1 => ∃ m1 st1 x, Rel (gc A X) m1 st1 H1 ∧ RV (gc A X) m1 H1 x u ∧ Run (gc A X) W σ m1 H1 (match x with
      | .ref i => (match st1[i]? with
        | some (.ins k fs) => (match t.lookup k, fs.lookup mt with
          | some g, none => bnd (aNil ρ st1) fun xs st2 => g (x :: xs) st2
          | _, _ => none)
        | _ => none)
      | _ => none) (kV (gc A X) Q)) := tM.thenG r v k fun x u st1 m1 H1 r1 e1 v1 hu k1 => ⟨m1, st1, x, r1, hu, k1⟩
  refine PySem.W.methodCall_KW (pl := pl) (thn (ho.run pins s σ H _ I w) fun ov s1 hh => ?_) hev
  obtain ⟨u, H1, I1, ru, m1, st1, x, r1, hu, k1⟩ := hh
  cases x with
  | ref i =>
    cases hu with
    | @ref i a hi =>
    obtain rfl : ov = Value.ref a := ru
    dsimp only at k1
    split at k1
    · rename_i kk fs hs
      split at k1
      · rename_i g hg hn
        obtain ⟨C, dx, gs, h0, h1, h2⟩ := r1.ins hs hi
        obtain ⟨f, c1, c2, cv⟩ := ht kk g hg C h0
        refine getmeth_ok I1 h1 c1 c2 (RF.none h2 hn) ?_
        exact PySem.W.callWith_K0 (first := [.ref a]) I1.kIn c2.kp (cv pins σ H1 s1 Q m1 st1 [.ref i] [] [.ref a] [] [.ref a] [] I1 r1 (.cons (.ref hi) .nil) (.cons rfl .nil) .nil .nil rfl rfl k1)
      · exact k1.elim
    · exact k1.elim
  | _ => exact k1.elim
end
end CS
namespace CS
open PySem PySem.Spec PyProof.Rows L2
structure SubB (X : Cx) (B : Around) : Prop where
  fr : B.frames = X.A.frames
  gd : B.guards = X.A.guards
  hd : B.handled = X.A.handled
  dp : B.depth ≤ X.A.depth + 3
  un : B.units ≤ X.A.units + 16
section
variable {A : AD} {X : Cx} {W : WX} {pins : List (Addr × Obj)} {σ : L2.St} {H : Hp} {s : Shared}
theorem SubB.self : SubB X X.A := ⟨rfl, rfl, rfl, Nat.le_add_right _ _, Nat.le_add_right _ _⟩
theorem SubB.in1 : SubB X X.A.in1 := ⟨rfl, rfl, rfl, Nat.le_add_right _ _, by show X.A.units + 1 ≤ X.A.units + 16; omega⟩
theorem SubB.room {B : Around} {l : Nat} (b : SubB X B) (r : Room (l + 1) X.A) : Room l B :=
  ⟨b.hd.trans r.hd, by have := r.dp; have := b.dp; omega, by have := r.un; have := b.un; omega⟩
def CvB (A : AD) (X : Cx) (u : Value) (n : Nat) (g : List MV → Sto → R MV) : Prop :=
  ∀ (B : Around) (pins : List (Addr × Obj)) (σ : L2.St) (H : Hp) (s : Shared) (Q : VK) (m : List Addr) (st : Sto) (xs : List MV) (vs : List V) (us : List Value), SubB X B → Inv X pins σ H s → Rel (gc A X) m st H → RVs (gc A X) m H xs vs → Vals vs us →
    xs.length = n → Run (gc A X) W0 σ m H (g xs st) (kV (gc A X) Q) → wpAny (model X.prog X.w) B (call u us) (EP X pins σ Q) X.xe s
theorem cvb_pos {sem : List MV → Sto → R MV} {l : Nat} {f : Addr} {fd : FuncData} {ps : List Str} (F : FnG X.prog X.w X.K X.mg X.base l f fd ps (spM (gc A X) sem ps.length)) (hr : Room (l + 1) X.A) (hg : X.A.guards = some []) (hb : Binds X.K fd ps []) :
    CvB A X (.ref f) ps.length sem := by
  intro B pins σ H s Q m st xs vs us sB I r h1 q1 l1 k
  have lu : (us ++ []).length = ps.length := by rw [List.append_nil, ← q1.length, ← h1.length]; exact l1
  have b := hb s us I.kIn lu
  rw [List.append_nil] at b
  have e0 : Env0 X.prog X.w X.K X.mg X.base B X.stack s H := by
    have e := I.env0
    exact ⟨by rw [sB.fr]; exact e.frames, e.mod, e.bs, e.bsz, e.funs, e.frf, e.hok, e.bare⟩
  have hW : Run (gc A X) (fun cls d _ H' => (fun _ _ _ => False : XK) cls d H') [] m H (sem xs st) (kV (gc A X) Q) := k.wish fun _ _ _ z => z
  refine wpAny_call (codeAny_mono (F.run B X.stack s H ⟨us, []⟩ us vs Q (fun _ _ _ => False) (sB.room hr) (sB.gd.trans hg) e0 b q1 ⟨by rw [← h1.length]; exact l1, m, st, _, r, h1, hW⟩) fun res s' hq => ?_)
  match res, hq with
  | .error e, hq =>
    obtain ⟨a, B', H', cls, d, _, _, _, _, _, _, _, z⟩ := hq
    exact z.elim
  | .ok (.ret u), hq => exact I.after hq
  | .ok .next, hq => exact hq.elim
  | .ok .brk, hq => exact hq.elim
  | .ok .cont, hq => exact hq.elim
abbrev Tb := List (Nat × (List MV → Sto → R MV))
def SpOk (A : AD) (X : Cx) (name : Str) (n : Nat) (t : Tb) : Prop :=
  ∀ k g, t.lookup k = some g → ∀ C, A.ca k = some C → ∃ f, PySem.W.findIn X.K (.ref C) name = some (some (.ref f)) ∧ PySem.W.isFn X.K (.ref f) = true ∧ CvB A X (.ref f) n g
def ownG (t : Tb) (x : MV) (st : Sto) : Option (List MV → Sto → R MV) := match x with
  | .ref i => (match st[i]? with | some (.ins k _) => t.lookup k | _ => none)
  | _ => none
def isIns (x : MV) (st : Sto) : Bool := match x with
  | .ref i => (match st[i]? with | some (.ins _ _) => true | _ => false)
  | _ => false
theorem ownG_of {m : List Addr} {st : Sto} {t : Tb} {x : MV} {u : V} {g : List MV → Sto → R MV} (r : Rel (gc A X) m st H) (h : RV (gc A X) m H x u) (e : ownG t x st = some g) : ∃ a k C, u = .ref a ∧ t.lookup k = some g ∧ A.ca k = some C ∧ ∃ dx fs, H a = some (.ins C dx fs) := by
  unfold ownG at e
  split at e
  · cases h with
    | @ref i a hi =>
    split at e
    · rename_i kk fs hs
      obtain ⟨C, dx, gs, h0, h1, h2⟩ := r.ins hs hi
      exact ⟨a, kk, C, rfl, e, h0, dx, gs, h1⟩
    · cases e
  · cases e
def bndP {α β : Type} (r : R α) (f : α → Option β) (g : β → Sto → R MV) : R MV := bndN r fun v st1 => match f v with | some y => g y st1 | none => none
def asLen : MV → Option Int
  | .int n => if 0 ≤ n ∧ n < 2 ^ 63 then some n else none
  | _ => none
def lenI (t : Tb) (xs : List MV) (st : Sto) : R MV := match xs with
  | [x] => (match ownG t x st with
    | some g => bndP (g [x] st) asLen fun n st1 => ret (.int n) st1
    | none => lenM xs st)
  | _ => none
def rOwn (A : AD) (X : Cx) (t : Tb) (K : MV → Hp → Prop) (x : MV) (rest : List MV) (u : V) (us : List V) (H : Hp) : Prop :=
  ∃ m st a k C g, u = .ref a ∧ Rel (gc A X) m st H ∧ RV (gc A X) m H x u ∧ RVs (gc A X) m H rest us ∧ t.lookup k = some g ∧ A.ca k = some C ∧ (∃ dx fs, H a = some (.ins C dx fs)) ∧ ∀ σ', Run (gc A X) W0 σ' m H (g (x :: rest) st) (fun v _ _ H1 => K v H1)
theorem own_call {name : Str} {n : Nat} {t : Tb} {K : MV → Hp → Prop} {x : MV} {rest : List MV} {u : V} {us : List V} {v : Value} {ws : List Value} {B : Around} {Q : Value → Shared → Prop} (T : SpOk A X name (n + 1) t) (I : Inv X pins σ H s) (sB : SubB X B) (hn : rest.length = n)
    (rv : RelV u v) (rs : Vals us ws) (h : rOwn A X t K x rest u us H) (hK : ∀ y w H' s' u', Inv X pins σ H' s' → RelV w u' → (∃ m', RV (gc A X) m' H' y w) → K y H' → Q u' s') :
    ∃ a C f, v = .ref a ∧ PySem.W.findIn X.K (.ref C) name = some (some (.ref f)) ∧ PySem.W.isFn X.K (.ref f) = true ∧ (∃ dx fs, H a = some (.ins C dx fs)) ∧ (∃ k g, t.lookup k = some g ∧ A.ca k = some C) ∧ wpAny (model X.prog X.w) B (call (.ref f) (.ref a :: ws)) Q X.xe s := by
  obtain ⟨m, st, a, k, C, g, rfl, r, hx, hr, h1, h2, h3, k0⟩ := h
  obtain ⟨f, f1, f2, cv⟩ := T k g h1 C h2
  obtain rfl : v = Value.ref a := rv
  refine ⟨a, C, f, rfl, f1, f2, h3, ⟨k, g, h1, h2⟩, ?_⟩
  refine wpAny_mono (cv B pins σ H s (fun w H' => ∃ y, (∃ m', RV (gc A X) m' H' y w) ∧ K y H') m st (x :: rest) (.ref a :: us) (.ref a :: ws) sB I r (.cons hx hr) (.cons rfl rs) (by rw [List.length_cons, hn]) ?_) (fun u' s' hq => ?_) (fun _ _ z => z)
  · exact (k0 σ).imp fun y st1 m1 H1 r1 e1 q w hw => ⟨y, ⟨m1, hw⟩, q⟩
  · obtain ⟨w, H', I', rw', y, hy, q⟩ := hq
    exact hK y w H' s' u' I' rw' hy q
theorem rv_int {c : GC} {m : List Addr} {n : Int} {w : V} {u : Value} (h : RV c m H (.int n) w) (r : RelV w u) : ∃ t, u = .int n t := by cases h; exact r
theorem rv_str {c : GC} {m : List Addr} {n : Str} {w : V} {u : Value} (h : RV c m H (.str n) w) (r : RelV w u) : ∃ t, u = .str n t := by cases h; exact r
theorem rv_bl {c : GC} {m : List Addr} {n : Bool} {w : V} {u : Value} (h : RV c m H (.bl n) w) (r : RelV w u) : u = .bool n := by cases h; exact r
theorem own_of {t : Tb} {m : List Addr} {st : Sto} {x : MV} {rest : List MV} {u : V} {us : List V} {g : List MV → Sto → R MV} {β : Type} {f : MV → Option β} {w : β → MV} {wV : β → V} {Q : VK} (hw : ∀ y m H, RV (gc A X) m H (w y) (wV y)) (r : Rel (gc A X) m st H) (hx : RV (gc A X) m H x u) (hr : RVs (gc A X) m H rest us) (e : ownG t x st = some g)
    (h : Run (gc A X) W σ m H (bndP (g (x :: rest) st) f fun y st1 => ret (w y) st1) (kV (gc A X) Q)) : rOwn A X t (fun v H1 => ∃ y, f v = some y ∧ Q (wV y) H1) x rest u us H := by
  obtain ⟨a, k, C, hu, h1, h2, h3⟩ := ownG_of r hx e
  refine ⟨m, st, a, k, C, g, hu, r, hx, hr, h1, h2, h3, fun σ' => (Run.bndN (σ' := σ') (m := m) (H := H) h).imp fun v st1 m1 H1 r1 e1 q => ?_⟩
  cases z : f v with
  | none => rw [z] at q; exact q.elim
  | some y =>
    rw [z] at q
    exact ⟨y, z, Run.ok q e1 r1 _ (hw y _ _)⟩
theorem asLen_of {v : MV} {n : Int} (h : asLen v = some n) : v = .int n ∧ 0 ≤ n ∧ n < 2 ^ 63 := by
  unfold asLen at h
  split at h
  · split at h
    · rename_i z
      cases h
      exact ⟨rfl, z⟩
    · cases h
  · cases h
theorem cl_lenI {t : Tb} (T : SpOk A X "__len__" 1 t) : ClM A X W (.builtin "len") (lenI t) := by
  obtain ⟨r0, c0, q0⟩ := cl_len (A := A) (X := X) (W := W)
  refine ⟨fun us H Q => r0 us H Q ∨ ∃ x u, us = [u] ∧ rOwn A X t (fun v H1 => ∃ y, asLen v = some y ∧ Q (.int y) H1) x [] u [] H, ?_, fun m st σ H xs us Q r h k => ?_⟩
  · intro pins s σ H xs us Q I r h
    rcases h with h | ⟨x, u, rfl, h⟩
    · exact c0 pins s σ H xs us Q I r h
    · obtain ⟨v, rfl, r1⟩ := vals1 r
      have key := fun Q' hK => own_call (name := "__len__") (Q := Q') T I SubB.in1 rfl r1 .nil h hK
      obtain ⟨a, C, f, rfl, f1, f2, ⟨dx, fs, h3⟩, _, hcall⟩ := key (PySem.W.LenBack (EP X pins σ Q)) fun y w H' s' u' I' rw' ⟨m', hy⟩ ⟨n, e, q⟩ => by
        obtain ⟨rfl, n0, n1⟩ := asLen_of e
        obtain ⟨tk, rfl⟩ := rv_int hy rw'
        exact ⟨⟨n0, n1⟩, .int n, H', I'.tok _, ⟨_, rfl⟩, q⟩
      obtain ⟨mA, O, _⟩ := ins_get I.hok h3
      obtain ⟨od, J, _⟩ := O.look
      obtain ⟨mF, hF⟩ := I.fr
      exact PySem.W.len_K hF I.ok.mod.kin J f1 f2 hcall
  · unfold lenI at k
    split at k
    · rename_i x
      cases h with
      | cons h h' =>
      cases h'
      split at k
      · rename_i g e
        exact .inr ⟨x, _, rfl, own_of (wV := fun y => V.int y) (fun y m H => .int y) r h .nil e k⟩
      · exact .inl (q0 m st σ H _ _ Q r (.cons h .nil) k)
    · exact k.elim
end
end CS
namespace CS
open PySem PySem.Spec PyProof.Rows L2
mutual
def dataD (st : Sto) : Nat → MV → Option PyData
  | _, .non => some .none
  | _, .bl b => some (.bool b)
  | _, .int i => some (.int i)
  | _, .str x => some (.str x)
  | n + 1, .tup xs => (dataDs st n xs).map .tuple
  | n + 1, .ref i => match listOf st i with
    | some xs => (dataDs st n xs).map .list
    | none => match st[i]? with | some .dct => some (.dict []) | _ => none
  | _, _ => none
def dataDs (st : Sto) : Nat → List MV → Option (List PyData)
  | _, [] => some []
  | 0, _ => none
  | n + 1, x :: xs => match dataD st n x, dataDs st (n + 1) xs with
    | some d, some ds => some (d :: ds)
    | _, _ => none
end
mutual
inductive DpD (K : PySem.W.Frag) (H : Hp) : V → PyData → Prop
  | non : DpD K H .non .none
  | bl (b : Bool) : DpD K H (.bl b) (.bool b)
  | int (i : Int) : DpD K H (.int i) (.int i)
  | str (x : Str) : DpD K H (.str x) (.str x)
  | lst {a : Addr} {xs : List V} {ds : List PyData} : SqL K H a xs → DpDs K H xs ds → DpD K H (.ref a) (.list ds)
  | tup {a : Addr} {xs : List V} {ds : List PyData} : SqT K H a xs → DpDs K H xs ds → DpD K H (.ref a) (.tuple ds)
  | dct {a : Addr} : H a = some (.dK []) → DpD K H (.ref a) (.dict [])
inductive DpDs (K : PySem.W.Frag) (H : Hp) : List V → List PyData → Prop
  | nil : DpDs K H [] []
  | cons {v : V} {vs : List V} {d : PyData} {ds : List PyData} : DpD K H v d → DpDs K H vs ds → DpDs K H (v :: vs) (d :: ds)
end
section
variable {X : Cx} {pins : List (Addr × Obj)} {σ : L2.St} {H : Hp} {s : Shared}
theorem dct_at (I : Inv X pins σ H s) {a : Addr} (h : H a = some (.dK [])) : (a == sysModules) = false ∧ ∃ o n, s.heap.get? a = some o ∧ o.cls = .type "dict" ∧ o.data = .dict #[] n := by
  obtain ⟨_, lo, vs, rk, o, es, ep, e, c, hd, _, hp, _⟩ := (show ObjOk X.prog X.w H s.heap a (.dK []) from I.hok a _ h)
  cases rk
  refine ⟨lo, o, ep, e, c.1, ?_⟩
  have : es.toList = [] := by
    cases q : es.toList with
    | nil => rfl
    | cons x l => rw [q] at hp; cases hp
  rw [hd]
  congr 1
  exact Array.toList_eq_nil_iff.mp this
abbrev TxtK (P : Program) (w : World) (h : Heap) (u : Value) (d : PyData) : Prop := (∃ as, Reads h u d as) ∧ (d.showable = true → d.shown.length ≤ sizeLine → ∃ bs, ReadAtMost h d.depth bs ∧ ReprK P w bs h d.depth u d.shown)
abbrev TxtAllK (P : Program) (w : World) (h : Heap) (us : List Value) (ds : List PyData) : Prop := (∃ as, ReadsAll h us ds as) ∧ (PyData.showableAll ds = true → (∀ t ∈ PyData.shownAll ds, t.length ≤ sizeLine) → ∃ bs, ReadAtMost h (PyData.depthAll ds) bs ∧ ReprAllK P w bs h (PyData.depthAll ds) us (PyData.shownAll ds))
mutual
theorem DpD.txt (I : Inv X pins σ H s) : ∀ (d : PyData) (v : V) (u : Value), DpD X.K H v d → RelV v u → TxtK X.prog X.w s.heap u d
  | .none, _, _, h, r => by
    cases h
    cases r
    exact ⟨⟨_, Reads.none⟩, fun _ _ => ⟨[], (fun _ h => nomatch h), by simp only [PyData.shown]; exact .of_is ReprIs.none _ _ _⟩⟩
  | .bool b, _, _, h, r => by
    cases h
    cases r
    exact ⟨⟨_, Reads.bool b⟩, fun _ _ => ⟨[], (fun _ h => nomatch h), by simp only [PyData.shown]; exact .of_is (ReprIs.bool b) _ _ _⟩⟩
  | .int i, _, _, h, r => by
    cases h
    obtain ⟨t, rfl⟩ := r
    exact ⟨⟨_, Reads.int i t⟩, fun hs _ => ⟨[], (fun _ h => nomatch h), by simp only [PyData.shown]; exact .of_is (ReprIs.int t (by simpa [PyData.showable] using hs)) _ _ _⟩⟩
  | .str x, _, _, h, r => by
    cases h
    obtain ⟨t, rfl⟩ := r
    exact ⟨⟨_, Reads.str x t⟩, fun _ hz => ⟨[], (fun _ h => nomatch h), by simp only [PyData.shown]; exact .of_is (ReprIs.str x t (by simpa only [PyData.shown] using hz)) _ _ _⟩⟩
  | .list ds, _, _, h, r => by
    cases h with
    | @lst a _ _ hs ha =>
      cases r
      obtain ⟨its, rv, ⟨o, n, ho, hc, _, hd⟩, _⟩ := I.list hs
      obtain ⟨⟨as, hr⟩, hk⟩ := DpDs.txt I ds _ its ha rv
      have r : Reads s.heap (.ref a) (.list ds) _ := Reads.list ho hc hd hr
      refine ⟨⟨_, r⟩, fun s1 hz => ?_⟩
      have hz' : (listText (PyData.shownAll ds)).length ≤ sizeLine := by simpa only [PyData.shown] using hz
      obtain ⟨bs, hb, hk⟩ := hk (by simpa [PyData.showable] using s1) (fun t ht => Nat.le_trans (listText_mem_le ht) hz')
      have hna : a ∉ bs := not_mem_of_deeper r (by simp only [PyData.depth]; omega) hb
      refine ⟨a :: bs, ReadAtMost.cons r (by simp only [PyData.depth]; omega) hb, ?_⟩
      simp only [PyData.depth, PyData.shown]
      cases its with
      | nil =>
        cases hr
        simp only [PyData.shownAll, listText_nil]
        exact ReprK.listEmpty ho hc hd
      | cons x l => exact ReprK.list ho hc hd hna (by simpa using hk.length_eq) (fun i y e => hk.item i y (by simpa using e))
  | .tuple ds, _, _, h, r => by
    cases h with
    | @tup a _ _ hs ha =>
      cases r
      obtain ⟨its, rv, ⟨o, ho, hc, n, hd⟩, _⟩ := I.tuple hs
      obtain ⟨⟨as, hr⟩, hk⟩ := DpDs.txt I ds _ its ha rv
      have r : Reads s.heap (.ref a) (.tuple ds) _ := Reads.tuple ho hc hd hr
      refine ⟨⟨_, r⟩, fun s1 hz => ?_⟩
      have hz' : (tupleText (PyData.shownAll ds)).length ≤ sizeLine := by simpa only [PyData.shown] using hz
      obtain ⟨bs, hb, hk⟩ := hk (by simpa [PyData.showable] using s1) (fun t ht => Nat.le_trans (tupleText_mem_le ht) hz')
      have hna : a ∉ bs := not_mem_of_deeper r (by simp only [PyData.depth]; omega) hb
      refine ⟨a :: bs, ReadAtMost.cons r (by simp only [PyData.depth]; omega) hb, ?_⟩
      simp only [PyData.depth, PyData.shown]
      exact ReprK.tuple ho hc hd hna hk
  | .dict kvs, _, _, h, r => by
    cases h with
    | @dct a ha =>
      cases r
      obtain ⟨hsys, o, n, ho, hc, hd⟩ := dct_at I ha
      have r : Reads s.heap (.ref a) (.dict []) _ := Reads.dict ho hc hd (kvs := []) (as := []) (bs := []) .nil .nil
      refine ⟨⟨_, r⟩, fun s1 hz => ?_⟩
      refine ⟨[a], ReadAtMost.cons (bs := []) (n := 0) r (Nat.zero_le _) (fun _ h => nomatch h), ?_⟩
      have e : ReprK X.prog X.w (a :: []) s.heap (0 + 1) (.ref a) (dictText []) := ReprK.dict ho hc hd hsys (fun h => nomatch h) .nil
      exact e
theorem DpDs.txt (I : Inv X pins σ H s) : ∀ (ds : List PyData) (vs : List V) (us : List Value), DpDs X.K H vs ds → Vals vs us → TxtAllK X.prog X.w s.heap us ds
  | [], _, _, h, r => by
    cases h
    cases r
    exact ⟨⟨_, ReadsAll.nil⟩, fun _ _ => ⟨[], (fun _ h => nomatch h), by simp only [PyData.shownAll]; exact .nil⟩⟩
  | d :: ds, _, _, h, r => by
    cases h with
    | cons h1 h2 =>
      cases r with
      | cons r1 r2 =>
        obtain ⟨⟨as, q1⟩, z1⟩ := DpD.txt I d _ _ h1 r1
        obtain ⟨⟨bs, q2⟩, z2⟩ := DpDs.txt I ds _ _ h2 r2
        refine ⟨⟨_, ReadsAll.cons q1 q2⟩, fun hs hz => ?_⟩
        have hs' : d.showable = true ∧ PyData.showableAll ds = true := by simpa [PyData.showableAll] using hs
        obtain ⟨b1, hb1, k1⟩ := z1 hs'.1 (hz _ (by simp only [PyData.shownAll]; exact List.mem_cons_self ..))
        obtain ⟨b2, hb2, k2⟩ := z2 hs'.2 (fun t ht => hz t (by simp only [PyData.shownAll]; exact List.mem_cons_of_mem _ ht))
        refine ⟨b1 ++ b2, ?_, ?_⟩
        · intro b hm
          simp only [PyData.depthAll]
          rcases List.mem_append.mp hm with hm | hm
          · obtain ⟨d', as', r', hd'⟩ := hb1 b hm
            exact ⟨d', as', r', Nat.le_trans hd' (Nat.le_max_left _ _)⟩
          · obtain ⟨d', as', r', hd'⟩ := hb2 b hm
            exact ⟨d', as', r', Nat.le_trans hd' (Nat.le_max_right _ _)⟩
        · simp only [PyData.depthAll, PyData.shownAll]
          exact .cons ((k1.more fun b hb => List.mem_append_left _ hb).level_le (Nat.le_max_left _ _)) (k2.more_le (fun b hb => List.mem_append_right _ hb) (Nat.le_max_right _ _))
end
theorem DpD.repr (I : Inv X pins σ H s) {d : PyData} {a : Addr} {E : Value → Shared → Prop} {Q : Value → Shared → Prop} (h : DpD X.K H (.ref a) d) (hs : d.showable = true) (hsz : d.shown.length ≤ sizeLine) (hg : X.A.guards = some []) (hu : X.A.units + (d.depth + 1) < cLine)
    (hQ : ∀ h' u tk, (∀ b o, s.heap.get? b = some o → h'.get? b = some o) → Q (.str d.shown u) { s with heap := h', toks := tk }) : wpAny (model X.prog X.w) X.A (call (.builtin "repr") [.ref a]) Q E s := by
  have done : ∀ {T idr : String}, SlotG T "__repr__" idr → s.TypeIs (.ref a) T → wpAny (model X.prog X.w) X.A.in1 (call (.builtin idr) [.ref a]) (fun r s₁ => ∃ x t, r = .str x t ∧ Q r s₁) E s → wpAny (model X.prog X.w) X.A (call (.builtin "repr") [.ref a]) Q E s := fun sl ty k => call_repr_slot (by omega) ty sl k
  have hu2 : X.A.in1.units + d.depth < cLine := by show X.A.units + 1 + d.depth < cLine; omega
  have hQ2 : ∀ h' u tk, (∀ b o, s.heap.get? b = some o → h'.get? b = some o) → (fun r s₁ => ∃ x t, r = Value.str x t ∧ Q r s₁) (.str d.shown u) { s with heap := h', toks := tk } := fun h' u tk hk => ⟨_, _, rfl, hQ h' u tk hk⟩
  have hg2 : X.A.in1.guards = some [] := hg
  generalize (fun r s₁ => ∃ x t, r = Value.str x t ∧ Q r s₁) = Q2 at done hQ2
  cases h with
  | @lst _ xs ds hs0 ha =>
    obtain ⟨its, rv, ⟨o, n, ho, hc, _, hd⟩, _⟩ := I.list hs0
    obtain ⟨⟨as, hr⟩, hk⟩ := DpDs.txt I ds _ its ha rv
    have r : Reads s.heap (.ref a) (.list ds) _ := Reads.list ho hc hd hr
    have hz' : (listText (PyData.shownAll ds)).length ≤ sizeLine := by simpa only [PyData.shown] using hsz
    obtain ⟨bs, hb, hk⟩ := hk (by simpa [PyData.showable] using hs) (fun t ht => Nat.le_trans (listText_mem_le ht) hz')
    have hna : a ∉ bs := not_mem_of_deeper r (by simp only [PyData.depth]; omega) hb
    simp only [PyData.depth] at hu2
    simp only [PyData.shown] at hQ2
    refine done F.slot_list_repr.toG ⟨o, ho, hc⟩ ?_
    cases its with
    | nil =>
      cases hr
      simp only [PyData.shownAll, listText_nil] at hQ2
      exact call_list_repr_empty ⟨o, ho, hc⟩ ho hd (hQ2 s.heap _ _ fun _ _ e => e)
    | cons x l => exact call_list_reprK ho hc hd hna (by simpa using hk.length_eq) (fun i y e => hk.item i y (by simpa using e)) hg2 (fun b _ => Clear.nil b) hu2 (fun _ _ e => e) hQ2 hz'
  | @tup _ xs ds hs0 ha =>
    obtain ⟨its, rv, ⟨o, ho, hc, n, hd⟩, _⟩ := I.tuple hs0
    obtain ⟨⟨as, hr⟩, hk⟩ := DpDs.txt I ds _ its ha rv
    have r : Reads s.heap (.ref a) (.tuple ds) _ := Reads.tuple ho hc hd hr
    have hz' : (tupleText (PyData.shownAll ds)).length ≤ sizeLine := by simpa only [PyData.shown] using hsz
    obtain ⟨bs, hb, hk⟩ := hk (by simpa [PyData.showable] using hs) (fun t ht => Nat.le_trans (tupleText_mem_le ht) hz')
    have hna : a ∉ bs := not_mem_of_deeper r (by simp only [PyData.depth]; omega) hb
    simp only [PyData.depth] at hu2
    simp only [PyData.shown] at hQ2
    exact done F.slot_tuple_repr ⟨o, ho, hc⟩ (call_tuple_reprK ho hc hd hna hk hg2 (fun b _ => Clear.nil b) hu2 (fun _ _ e => e) hQ2 hz')
  | dct ha =>
    obtain ⟨hsys, o, n, ho, hc, hd⟩ := dct_at I ha
    exact done F.slot_dict_repr ⟨o, ho, hc⟩ (call_dict_reprK (as := []) (d := 0) (ps := []) ho hc hd hsys (fun h => nomatch h) .nil hg2 (fun b _ => Clear.nil b) hu2 (fun _ _ e => e) hQ2 hsz)
end
theorem dpD_of {c : GC} {m : List Addr} {st : Sto} {H : Hp} (r : Rel c m st H) : ∀ n : Nat,
    (∀ (x : MV) (u : V) (d : PyData), RV c m H x u → dataD st n x = some d → DpD c.K H u d) ∧ (∀ (xs : List MV) (us : List V) (ds : List PyData), RVs c m H xs us → dataDs st n xs = some ds → DpDs c.K H us ds) := by
  intro n
  induction n using Nat.strongRecOn with
  | _ n ih =>
    have one : ∀ (x : MV) (u : V) (d : PyData), RV c m H x u → dataD st n x = some d → DpD c.K H u d := by
      intro x u d h e
      cases h with
      | non => cases n <;> (simp only [dataD] at e; cases e; exact .non)
      | bl b => cases n <;> (simp only [dataD] at e; cases e; exact .bl _)
      | int i => cases n <;> (simp only [dataD] at e; cases e; exact .int _)
      | str y => cases n <;> (simp only [dataD] at e; cases e; exact .str _)
      | @tup a xs vs hs hv =>
        cases n with
        | zero => simp only [dataD] at e; cases e
        | succ n =>
          simp only [dataD] at e
          cases q : dataDs st n xs with
          | none => rw [q] at e; cases e
          | some ds =>
            rw [q] at e
            cases e
            exact .tup hs.toT ((ih n (Nat.lt_succ_self n)).2 xs vs ds hv q)
      | @ref i a hi =>
        cases n with
        | zero => simp only [dataD] at e; cases e
        | succ n =>
          simp only [dataD] at e
          cases q : listOf st i with
          | none =>
            rw [q] at e
            simp only at e
            split at e
            · rename_i hs
              cases e
              obtain ⟨b, hb, z⟩ := r.obj i _ hs
              rw [hi] at hb
              cases hb
              exact .dct z
            · cases e
          | some xs =>
            rw [q] at e
            simp only at e
            obtain ⟨vs, hs, hv⟩ := r.list q hi
            cases q2 : dataDs st n xs with
            | none => rw [q2] at e; cases e
            | some ds =>
              rw [q2] at e
              cases e
              exact .lst hs ((ih n (Nat.lt_succ_self n)).2 xs vs ds hv q2)
      | fn => cases n <;> (simp only [dataD] at e; cases e)
      | cl => cases n <;> (simp only [dataD] at e; cases e)
      | ty => cases n <;> (simp only [dataD] at e; cases e)
    refine ⟨one, ?_⟩
    intro xs
    induction xs with
    | nil =>
      intro us ds h e
      cases h
      cases n <;> (simp only [dataDs] at e; cases e; exact .nil)
    | cons x xs ihx =>
      intro us ds h e
      cases h with
      | cons h1 h2 =>
      cases n with
      | zero => simp only [dataDs] at e; cases e
      | succ n =>
        simp only [dataDs] at e
        cases q : dataD st n x with
        | none => rw [q] at e; cases e
        | some d =>
          rw [q] at e
          cases q2 : dataDs st (n + 1) xs with
          | none => rw [q2] at e; cases e
          | some ds' =>
            rw [q2] at e
            cases e
            exact .cons ((ih n (Nat.lt_succ_self n)).1 x _ d h1 q) (ihx _ _ h2 q2)
end CS
namespace CS
open PySem PySem.Spec PyProof.Rows L2
section
variable {A : AD} {X : Cx} {W : WX} {pins : List (Addr × Obj)} {σ : L2.St} {H : Hp} {s : Shared}
def asStr : MV → Option Str
  | .str x => some x
  | _ => none
theorem asStr_of {v : MV} {n : Str} (h : asStr v = some n) : v = .str n := by
  unfold asStr at h
  split at h
  · cases h; rfl
  · cases h
def shownD (d : PyData) : Option Str := if d.showable && !d.hasDict && decide (d.depth ≤ 60) && decide (d.shown.length ≤ sizeLine) then some d.shown else none
def shownE (d : PyData) : Option Str := if d.showable && decide (d.depth ≤ 60) && decide (d.shown.length ≤ sizeLine) then some d.shown else none
def reprD (x : MV) (st : Sto) : Option Str := match x with
  | .int i => if i.natAbs.log2 < 1920 then some (toString i) else none
  | .str z => if (reprText z).length ≤ sizeLine then some (reprText z) else none
  | .non => some "None"
  | .bl b => some (if b then "True" else "False")
  | x => (match dataM st 60 x with | some d => shownD d | none => (match dataD st 60 x with | some d => shownE d | none => none))
def reprI (t : Tb) (xs : List MV) (st : Sto) : R MV := match xs with
  | [x] => (match ownG t x st with
    | some g => bndP (g [x] st) asStr fun n st1 => ret (.str n) st1
    | none => (match reprD x st with | some z => ret (.str z) st | none => none))
  | _ => none
def rRepr (K : PySem.W.Frag) (us : List V) (H : Hp) (Q : VK) : Prop :=
  (∃ i, us = [.int i] ∧ i.natAbs.log2 < 1920 ∧ Q (.str (toString i)) H) ∨ (∃ z, us = [.str z] ∧ (reprText z).length ≤ sizeLine ∧ Q (.str (reprText z)) H) ∨ (us = [.non] ∧ Q (.str "None") H) ∨ (∃ b, us = [.bl b] ∧ Q (.str (if b then "True" else "False")) H) ∨
    (∃ a d, us = [.ref a] ∧ Dp K H (.ref a) d ∧ d.showable = true ∧ d.hasDict = false ∧ d.depth ≤ 60 ∧ d.shown.length ≤ sizeLine ∧ Q (.str d.shown) H) ∨
    ∃ a d, us = [.ref a] ∧ DpD K H (.ref a) d ∧ d.showable = true ∧ d.depth ≤ 60 ∧ d.shown.length ≤ sizeLine ∧ Q (.str d.shown) H
theorem call_reprD (hg : X.A.guards = some []) (hu : X.A.units + 64 < cLine) : CallR X (.builtin "repr") (rRepr X.K) := by
  intro pins s σ H xs us Q I r h
  rcases h with ⟨i, rfl, h1, q⟩ | ⟨z, rfl, h1, q⟩ | ⟨rfl, q⟩ | ⟨b, rfl, q⟩ | ⟨a, d, rfl, h1, h2, h3, h4, h5, q⟩ | ⟨a, d, rfl, h1, h2, h4, h5, q⟩
  · obtain ⟨u, rfl, t, rfl⟩ := vals1 r
    exact PySem.P.repr_of_int h1 ⟨.str _, H, I.tok _, ⟨_, rfl⟩, q⟩
  · obtain ⟨u, rfl, t, rfl⟩ := vals1 r
    exact PySem.P.repr_of_str ⟨.str _, H, I.tok _, ⟨_, rfl⟩, q⟩ h1
  · obtain ⟨u, rfl, r1⟩ := vals1 r
    cases r1
    exact PySem.P.repr_of_none ⟨.str _, H, I.tok _, ⟨_, rfl⟩, q⟩
  · obtain ⟨u, rfl, r1⟩ := vals1 r
    cases r1
    refine PySem.P.repr_of_bool ⟨.str (if b then "True" else "False"), H, I.tok _, ⟨s.toks, ?_⟩, q⟩
    cases b <;> rfl
  · obtain ⟨u, rfl, r1⟩ := vals1 r
    cases r1
    obtain ⟨as, rd⟩ := Dp.reads I d _ _ h1 rfl
    exact PySem.repr_of_reads' rd h2 (fun z => by rw [h3] at z; cases z) hg (by omega) (fun _ _ e => e) (fun h' u tk kp => ⟨.str d.shown, H, I.kept kp, ⟨u, rfl⟩, q⟩) h5
  · obtain ⟨u, rfl, r1⟩ := vals1 r
    cases r1
    exact DpD.repr I h1 h2 h5 hg (by omega) fun h' u tk kp => ⟨.str d.shown, H, I.kept kp, ⟨u, rfl⟩, q⟩
theorem reprD_ok {m : List Addr} {st : Sto} {x : MV} {u : V} {z : Str} {Q : VK} (r : Rel (gc A X) m st H) (h : RV (gc A X) m H x u) (e : reprD x st = some z) (q : Q (.str z) H) : rRepr X.K [u] H Q := by
  have data : ∀ d a, RV (gc A X) m H x (.ref a) → dataM st 60 x = some d → shownD d = some z → rRepr X.K [.ref a] H Q := fun d a h e1 e2 => by
    unfold shownD at e2
    split at e2
    · rename_i hc
      simp only [Bool.and_eq_true, Bool.not_eq_true', decide_eq_true_eq] at hc
      obtain ⟨⟨⟨c1, c2⟩, c3⟩, c4⟩ := hc
      cases e2
      exact .inr (.inr (.inr (.inr (.inl ⟨a, d, rfl, (dp_of r 60).1 _ _ _ h e1, c1, c2, c3, c4, q⟩))))
    · cases e2
  have dataE : ∀ d a, RV (gc A X) m H x (.ref a) → dataD st 60 x = some d → shownE d = some z → rRepr X.K [.ref a] H Q := fun d a h e1 e2 => by
    unfold shownE at e2
    split at e2
    · rename_i hc
      simp only [Bool.and_eq_true, decide_eq_true_eq] at hc
      obtain ⟨⟨c1, c3⟩, c4⟩ := hc
      cases e2
      exact .inr (.inr (.inr (.inr (.inr ⟨a, d, rfl, (dpD_of r 60).1 _ _ _ h e1, c1, c3, c4, q⟩))))
    · cases e2
  have h0 := h
  cases h with
  | non => cases e; exact .inr (.inr (.inl ⟨rfl, q⟩))
  | bl b => cases e; exact .inr (.inr (.inr (.inl ⟨b, rfl, q⟩)))
  | int i =>
    unfold reprD at e
    simp only at e
    split at e
    · rename_i hl; cases e; exact .inl ⟨i, rfl, hl, q⟩
    · cases e
  | str y =>
    unfold reprD at e
    simp only at e
    split at e
    · rename_i hl; cases e; exact .inr (.inl ⟨y, rfl, hl, q⟩)
    · cases e
  | @tup a xs vs hs hv =>
    unfold reprD at e
    simp only at e
    split at e
    · rename_i d ed; exact data d a h0 ed e
    · split at e
      · rename_i d ed; exact dataE d a h0 ed e
      · cases e
  | @ref i a hi =>
    unfold reprD at e
    simp only at e
    split at e
    · rename_i d ed; exact data d a h0 ed e
    · split at e
      · rename_i d ed; exact dataE d a h0 ed e
      · cases e
  | fn => simp only [reprD, dataM, dataD] at e; cases e
  | cl => simp only [reprD, dataM, dataD] at e; cases e
  | ty => simp only [reprD, dataM, dataD] at e; cases e
theorem cl_reprI {t : Tb} (T : SpOk A X "__repr__" 1 t) (hg : X.A.guards = some []) (hu : X.A.units + 64 < cLine) : ClM A X W (.builtin "repr") (reprI t) := by
  refine ⟨fun us H Q => rRepr X.K us H Q ∨ ∃ x u, us = [u] ∧ rOwn A X t (fun v H1 => ∃ y, asStr v = some y ∧ Q (.str y) H1) x [] u [] H, ?_, fun m st σ H xs us Q r h k => ?_⟩
  · intro pins s σ H xs us Q I r h
    rcases h with h | ⟨x, u, rfl, h⟩
    · exact call_reprD hg hu pins s σ H xs us Q I r h
    · obtain ⟨v, rfl, r1⟩ := vals1 r
      have key := fun Q' hK => own_call (name := "__repr__") (Q := Q') T I SubB.in1 rfl r1 .nil h hK
      obtain ⟨a, C, f, rfl, f1, f2, ⟨dx, fs, h3⟩, _, hcall⟩ := key (PySem.W.StrBack (EP X pins σ Q)) fun y w H' s' u' I' rw' ⟨m', hy⟩ ⟨n, e, q⟩ => by
        obtain rfl := asStr_of e
        obtain ⟨tk, rfl⟩ := rv_str hy rw'
        exact ⟨.str n, H', I', ⟨_, rfl⟩, q⟩
      obtain ⟨mA, O, _⟩ := ins_get I.hok h3
      obtain ⟨od, J, _⟩ := O.look
      obtain ⟨mF, hF⟩ := I.fr
      exact PySem.W.repr_K (by show X.A.units + 1 < cLine; omega) hF I.ok.mod.kin J f1 f2 hcall
  · unfold reprI at k
    split at k
    · rename_i x
      cases h with
      | cons h h' =>
      cases h'
      split at k
      · rename_i g e
        exact .inr ⟨x, _, rfl, own_of (wV := fun y => V.str y) (fun y m H => .str y) r h .nil e k⟩
      · split at k
        · rename_i z e
          exact .inl (reprD_ok r h e (Run.ok k .refl r _ (.str z)))
        · exact k.elim
    · exact k.elim
inductive TyN where | b (n : String) | o (k : Nat)
  deriving DecidableEq
def tyM (x : MV) (st : Sto) : Option TyN := match x with
  | .non => some (.b "NoneType")
  | .bl _ => some (.b "bool")
  | .int _ => some (.b "int")
  | .str _ => some (.b "str")
  | .tup _ => some (.b "tuple")
  | .ref i => (match st[i]? with
    | some (.lst _) => some (.b "list")
    | some (.frz _) => some (.b "list")
    | some (.ins k _) => some (.o k)
    | some .dct => some (.b "dict")
    | none => none)
  | _ => none
structure ClsI (K : PySem.W.Frag) (C : Addr) : Prop where
  cl : Cls K C
  ha : PySem.W.findIn K (.ref C) "__class__" = some (some (.builtin "object.__class__"))
  hn : PySem.W.specialIn K (.builtin "object.__class__") "__get__" = some (some (.builtin "getset_descriptor.__get__"))
  htk : PySem.W.takesIn K (.builtin "object.__class__") = some true
  hm : PySem.W.mroIn K C (.type "object") = some true
def TyV (A : AD) : TyN → Value → Prop
  | .b n, t => t = .type n
  | .o k, t => ∃ C, A.ca k = some C ∧ t = .ref C
def InsOk (A : AD) (K : PySem.W.Frag) (ks : List Nat) : Prop := ∀ k ∈ ks, ∀ C, A.ca k = some C → ClsI K C
theorem sqt_tyx {K : PySem.W.Frag} {a : Addr} {vs : List V} (h : SqT K H a vs) : TyX K H (.ref a) (.type "tuple") := by
  rcases h with (h | ⟨o, h⟩) | ⟨o, its, n, h, c, _⟩
  · exact .base (.tup h)
  · exact .fTuple h
  · exact .kTuple h c
theorem tyM_ok {m : List Addr} {st : Sto} {x : MV} {u : V} {ty : TyN} (r : Rel (gc A X) m st H) (h : RV (gc A X) m H x u) (e : tyM x st = some ty) (ho : ∀ k, ty = .o k → ∀ C, A.ca k = some C → ClsI X.K C) : ∃ t, TyX X.K H u t ∧ TyV A ty t := by
  cases h with
  | non => cases e; exact ⟨_, .base .non, rfl⟩
  | bl b => cases e; exact ⟨_, .base (.bl b), rfl⟩
  | int i => cases e; exact ⟨_, .base (.int i), rfl⟩
  | str y => cases e; exact ⟨_, .base (.str y), rfl⟩
  | @tup a xs vs hs hv => cases e; exact ⟨_, sqt_tyx hs.toT, rfl⟩
  | @ref i a hi =>
    unfold tyM at e
    simp only at e
    split at e
    · rename_i xs hs
      cases e
      obtain ⟨vs, h1, _⟩ := r.lst hs hi
      exact ⟨_, .base (.lst h1), rfl⟩
    · rename_i xs hs
      cases e
      obtain ⟨o, vs, h1, _⟩ := r.frz hs hi
      exact ⟨_, .base (.frz h1), rfl⟩
    · rename_i k fs hs
      cases e
      obtain ⟨C, dx, gs, h0, h1, _⟩ := r.ins hs hi
      have c := ho k rfl C h0
      exact ⟨_, .base (.ins h1 c.cl c.ha c.hn c.htk c.hm), C, h0, rfl⟩
    · rename_i hs
      cases e
      obtain ⟨b, hb, q⟩ := r.obj i _ hs
      rw [hi] at hb
      cases hb
      exact ⟨_, .base (.dK q), rfl⟩
    · cases e
  | fn => cases e
  | cl => cases e
  | ty => cases e
def bNames : List String := ["NoneType", "bool", "int", "str", "tuple", "list"]
def okY (os : List Nat) (y : MV) (st : Sto) : Bool := match tyM y st with
  | some (.b n) => bNames.contains n
  | some (.o k) => os.contains k
  | none => false
def asBl : MV → Option Bool
  | .bl b => some b
  | _ => none
theorem asBl_of {v : MV} {n : Bool} (h : asBl v = some n) : v = .bl n := by
  unfold asBl at h
  split at h
  · cases h; rfl
  · cases h
def eqI (t : Tb) (os : List Nat) (x y : MV) (st : Sto) : R MV := match ownG t x st with
  | some g => if okY os y st then bndP (g [x, y] st) asBl fun b st1 => ret (.bl b) st1 else none
  | none => eqM x y st
def neI (t : Tb) (os : List Nat) (x y : MV) (st : Sto) : R MV := match ownG t x st with
  | some g => if okY os y st then bndP (g [x, y] st) asBl fun b st1 => ret (.bl (!b)) st1 else none
  | none => neM x y st
def NfOk (A : AD) (K : PySem.W.Frag) (t : Tb) (os : List Nat) : Prop := InsOk A K os ∧ ∀ k g, t.lookup k = some g → ∀ C, A.ca k = some C → (∀ n ∈ bNames, PySem.W.notFirst K C (.type n) = true) ∧ ∀ k2 ∈ os, ∀ D, A.ca k2 = some D → PySem.W.notFirst K C (.ref D) = true
def Rgt (A : AD) (K : PySem.W.Frag) (os : List Nat) (H : Hp) (v : V) : Prop := ∃ ty t, TyX K H v t ∧ TyV A ty t ∧ (match ty with | .b n => n ∈ bNames | .o k => k ∈ os)
theorem rgt_of {m : List Addr} {st : Sto} {y : MV} {v : V} {os : List Nat} (r : Rel (gc A X) m st H) (h : RV (gc A X) m H y v) (e : okY os y st = true) (ho : InsOk A X.K os) : Rgt A X.K os H v := by
  unfold okY at e
  split at e
  · rename_i n q
    obtain ⟨t, h1, h2⟩ := tyM_ok r h q fun k z => by cases z
    exact ⟨_, t, h1, h2, by simpa using e⟩
  · rename_i k q
    have hk : k ∈ os := by simpa using e
    obtain ⟨t, h1, h2⟩ := tyM_ok r h q fun k' z => by cases z; exact ho k hk
    exact ⟨_, t, h1, h2, hk⟩
  · cases e
theorem op_eqI {t : Tb} {os : List Nat} (T : SpOk A X "__eq__" 2 t) (N : NfOk A X.K t os) (hu : X.A.units + 64 < cLine) : OpM A X W (compareOp .Eq) (eqI t os) := by
  obtain ⟨r0, c0, q0⟩ := op_eqM (A := A) (X := X) (W := W) hu
  refine ⟨fun u v H Q => r0 u v H Q ∨ ∃ x y, Rgt A X.K os H v ∧ rOwn A X t (fun w H1 => ∃ b, asBl w = some b ∧ Q (.bl b) H1) x [y] u [v] H, ?_, fun m st σ H x y u v Q r hx hy k => ?_⟩
  · intro pins s σ H x y v u Q I rx ry h
    rcases h with h | ⟨mx, my, ⟨ty, tv, h1, h2, h3⟩, h⟩
    · exact c0 pins s σ H x y v u Q I rx ry h
    · have key := fun Q' hK => own_call (name := "__eq__") (Q := Q') T I SubB.self rfl rx (.cons ry .nil) h hK
      obtain ⟨a, C, f, rfl, f1, f2, ⟨dx, fs, h4⟩, ⟨k, g, g1, g2⟩, hcall⟩ := key (PySem.W.CmpBack (EP X pins σ Q)) fun w wv H' s' u' I' rw' ⟨m', hy⟩ ⟨b, e, q⟩ => by
        obtain rfl := asBl_of e
        obtain rfl := rv_bl hy rw'
        exact ⟨.bl b, H', I', rfl, q⟩
      obtain ⟨P, Z, p, _⟩ := kit_of I ry h1
      obtain ⟨n1, n2⟩ := N.2 k g g1 C g2
      have nf : PySem.W.notFirst X.K C tv = true := by
        cases ty with
        | b n => rw [show tv = .type n from h2]; exact n1 n h3
        | o k2 => obtain ⟨D, d1, d2⟩ := h2; rw [d2]; exact n2 k2 h3 D d1
      obtain ⟨mA, O, _⟩ := ins_get I.hok h4
      obtain ⟨od, J, _⟩ := O.look
      obtain ⟨mF, hF⟩ := I.fr
      exact PySem.W.cmp_K (op := .Eq) (by omega) hF I.ok.mod.kin J (Z.ty _ _ I.kIn p) nf f1 f2 hcall
  · unfold eqI at k
    split at k
    · rename_i g e
      split at k
      · rename_i hy'
        exact .inr ⟨x, y, rgt_of r hy hy' N.1, own_of (wV := fun y => V.bl y) (fun y m H => .bl y) r hx (.cons hy .nil) e k⟩
      · exact k.elim
    · exact .inl (q0 m st σ H x y u v Q r hx hy k)
end
end CS
namespace CS
open PySem PySem.Spec PyProof.Rows L2
namespace Ow
variable {prog : Program} {w : World} {B : Around} {E : Value → Shared → Prop} {s : Shared} {K : PySem.W.Frag} {a C f : Addr} {ox : Obj} {od : Option Obj}
theorem ne_body {y : Value} {Q : Fin → Shared → Prop} (hK : K.In s.heap) (J : PySem.W.InstAt s.heap a ox C od) (h1 : PySem.W.findIn K (.ref C) "__eq__" = some (some (.ref f))) (h2 : PySem.W.isFn K (.ref f) = true) (hu : B.units < cLine)
    (hc : wpAny (model prog w) B (call (.ref f) [.ref a, y]) (fun v s' => ∃ k, v = .bool k ∧ Q (.done (.ret (.bool (!k)))) s') E s) :
    wpAny (model prog w) B (Builtin.«object.__ne__» ⟨[.ref a, y], []⟩) Q E s := by
  unfold Builtin.«object.__ne__»
  repeat (first
    | with_reducible refine wpAny_cRoomFor hu ?_
    | (refine wpAny_bind (m := callSpecialIfBound? (.ref a) (Str.ofString "__eq__") [y]) (PySem.W.ifBound_K hK J h1 h2 (wpAny_mono hc (fun r s' hr => by
        obtain ⟨k, rfl, hq⟩ := hr
        repeat (first | exact hq | exact wpAny_pure hq | (refine wpAny_bind (m := truthy (.bool _)) (wpAny_truthy_bool ?_)) | wp_step)) fun _ _ z => z)))
    | wp_step)
theorem ne_try {y : Value} {Q : Option Value → Shared → Prop} (hK : K.In s.heap) (J : PySem.W.InstAt s.heap a ox C od) (h1 : PySem.W.findIn K (.ref C) "__eq__" = some (some (.ref f))) (h2 : PySem.W.isFn K (.ref f) = true)
    (h3 : PySem.W.findIn K (.ref C) "__ne__" = some (some (.builtin "object.__ne__"))) (h4 : PySem.W.subIn K (.ref C) (.type "object") = some true) (hu : B.units + 1 < cLine)
    (hc : wpAny (model prog w) B.in1 (call (.ref f) [.ref a, y]) (fun v s' => ∃ k, v = .bool k ∧ Q (some (.bool (!k))) s') E s) :
    wpAny (model prog w) B (tryCompare (.ref a) "__ne__" y) Q E s := by
  have hb : bindSpecial (.builtin "object.__ne__") (.ref a) = pure (.builtin "object.__ne__", [.ref a]) := PySem.F.cmp_object.ne.bind _
  have hL : PySem.W.Looks (model prog w) s.heap (isInstance (.ref a) (.type "object")) true := J.type.andThen (PySem.W.looks_subIn hK h4)
  have one : wpAny (model prog w) B (call (.builtin "object.__ne__") [.ref a, y]) (fun v s' => ∃ k, v = .bool (!k) ∧ Q (some (.bool (!k))) s') E s := by
    refine wpAny_call (codeAny_call_builtin PySem.F.cmp_object.ne.plain PySem.F.cmpEntry_ne (PySem.W.check_slot PySem.F.cmpKind_ne PySem.F.cmpSplit_ne hL (PySem.F.cmpArgs_ne _ _)
      (ne_body (B := B.in1) hK J h1 h2 hu (wpAny_mono hc (fun v s' hv => ?_) fun _ _ z => z))))
    obtain ⟨k, rfl, q⟩ := hv
    exact ⟨k, rfl, k, rfl, q⟩
  have two : wpAny (model prog w) B (callSpecialIfBound? (.ref a) "__ne__" [y]) (fun v s' => ∃ k, v = some (.bool (!k)) ∧ Q (some (.bool (!k))) s') E s := by
    simp only [callSpecialIfBound?, bindSpecialIfBound?]
    refine wpAny_holding (wpAny_bind (wpAny_bind (wpAny_bind (J.type.here ((PySem.W.looks_findIn hK h3).here ?_)))))
    refine wpAny_bind (wpAny_askSetting (wpAny_ite ?_))
    have fin : wpAny (model prog w) B (call (.builtin "object.__ne__") ([.ref a] ++ [y]) >>= fun v => pure (some v)) (fun v s' => ∃ k, v = some (.bool (!k)) ∧ Q (some (.bool (!k))) s') E s :=
      wpAny_bind (wpAny_mono one (fun v s' ⟨k, e, q⟩ => wpAny_pure ⟨k, by rw [e], q⟩) fun _ _ z => z)
    split
    · refine wpAny_bind ?_
      rw [hb]
      exact wpAny_pure (wpAny_pure fin)
    · refine wpAny_tryCatch (wpAny_bind ?_)
      rw [hb]
      exact wpAny_pure (wpAny_pure fin)
  unfold tryCompare
  refine wpAny_bind (wpAny_mono two (fun v s' hv => ?_) fun _ _ z => z)
  obtain ⟨k, rfl, q⟩ := hv
  exact wpAny_pure q
theorem ne_rich {y tb : Value} {Q : Value → Shared → Prop} (hK : K.In s.heap) (J : PySem.W.InstAt s.heap a ox C od) (hb : PySem.W.Looks (model prog w) s.heap (typeOf y) tb) (hn : PySem.W.notFirst K C tb = true) (h1 : PySem.W.findIn K (.ref C) "__eq__" = some (some (.ref f)))
    (h2 : PySem.W.isFn K (.ref f) = true) (h3 : PySem.W.findIn K (.ref C) "__ne__" = some (some (.builtin "object.__ne__"))) (h4 : PySem.W.subIn K (.ref C) (.type "object") = some true) (hu : B.units + 1 < cLine)
    (hc : wpAny (model prog w) B.in1 (call (.ref f) [.ref a, y]) (fun v s' => ∃ k, v = .bool k ∧ Q (.bool (!k)) s') E s) :
    wpAny (model prog w) B (richCompare .NotEq (.ref a) y) Q E s := by
  have one : wpAny (model prog w) B (tryCompare (.ref a) "__ne__" y) (fun r s' => ∃ v, r = some v ∧ Q v s') E s :=
    ne_try hK J h1 h2 h3 h4 hu (wpAny_mono hc (fun v s' ⟨k, e, q⟩ => ⟨k, e, _, rfl, q⟩) fun _ _ z => z)
  unfold richCompare
  simp only [oneThing_ref]
  refine wpAny_holding (wpAny_bind (wpAny_cRoomFor (by omega) ?_))
  rw [PySem.cmpInfo_NotEq]
  dsimp only
  refine wpAny_bind (J.type.here (wpAny_bind (hb.here ?_)))
  split
  · rename_i q
    have e : PySem.W.subIn K tb (.ref C) = some false := by
      rcases Bool.or_eq_true_iff.mp hn with e | e
      · rw [beq_iff_eq.mp e] at q; simp at q
      · exact beq_iff_eq.mp e
    refine wpAny_bind ((PySem.W.looks_subIn hK e).here ?_)
    simp only [Bool.false_eq_true, if_false]
    refine wpAny_bind (wpAny_mono one (fun r s' z => ?_) fun _ _ e => e)
    obtain ⟨v, rfl, hq⟩ := z
    exact wpAny_pure hq
  · refine wpAny_bind (wpAny_pure ?_)
    simp only [Bool.false_eq_true, if_false]
    refine wpAny_bind (wpAny_mono one (fun r s' z => ?_) fun _ _ e => e)
    obtain ⟨v, rfl, hq⟩ := z
    exact wpAny_pure hq
theorem len_body {Q : Int → Shared → Prop} (hK : K.In s.heap) (J : PySem.W.InstAt s.heap a ox C od) (h1 : PySem.W.findIn K (.ref C) "__len__" = some (some (.ref f))) (h2 : PySem.W.isFn K (.ref f) = true)
    (hc : wpAny (model prog w) B (call (.ref f) [.ref a]) (fun v s' => ∃ n t, v = .int n t ∧ 0 ≤ n ∧ n < 2 ^ 63 ∧ Q n { s' with toks := s'.toks + 1 }) E s) :
    wpAny (model prog w) B (Builtin.«len» ⟨[.ref a], []⟩) (fun fin s' => ∃ n t, fin = .done (.ret (.int n t)) ∧ Q n s') E s := by
  unfold Builtin.«len»
  refine wpAny_bind (m := oneArg "len" _) (wpAny_pure ?_)
  refine wpAny_bind (m := callSpecial? (.ref a) (Str.ofString "__len__")) (PySem.W.special_fn hK J h1 (beq_iff_eq.mp h2) (wpAny_mono hc (fun r s' hr => ?_) fun _ _ z => z))
  obtain ⟨n, t, rfl, h0, h3, q⟩ := hr
  refine wpAny_bind (wpAny_holding (wpAny_pure ?_))
  refine wpAny_bind (wpAny_letGo ?_)
  show wpAny _ _ (if n < 0 then _ else _) _ _ _
  rw [if_neg (by omega)]
  show wpAny _ _ (if n ≥ 2 ^ 63 then _ else _) _ _ _
  rw [if_neg (by omega)]
  exact wpAny_bind (wpAny_mkInt (wpAny_pure ⟨_, _, rfl, q⟩))
theorem truth_len {Q : Bool → Shared → Prop} (hK : K.In s.heap) (J : PySem.W.InstAt s.heap a ox C od) (h0 : PySem.W.findIn K (.ref C) "__bool__" = some none) (h1 : PySem.W.findIn K (.ref C) "__len__" = some (some (.ref f))) (h2 : PySem.W.isFn K (.ref f) = true)
    (hc : wpAny (model prog w) B.in1 (call (.ref f) [.ref a]) (fun v s' => ∃ n t, v = .int n t ∧ 0 ≤ n ∧ n < 2 ^ 63 ∧ Q (n != 0) { s' with toks := s'.toks + 1 }) E s) :
    wpAny (model prog w) B (truthy (.ref a)) Q E s := by
  have key : wpAny (model prog w) B (runValue (.builtin "len" ⟨[.ref a], []⟩)) (fun r s' => ∃ n t, r = .int n t ∧ Q (n != 0) s') E s := by
    refine wpAny_runValue (codeAny_builtin entry_len ?_)
    rw [Around.under_plainId plain_len _]
    exact wpAny_mono (len_body (B := B.in1) (Q := fun n s' => Q (n != 0) s') hK J h1 h2 hc) (fun fin s' h' => by obtain ⟨n, t, rfl, q⟩ := h'; exact ⟨n, t, rfl, q⟩) fun _ _ z => z
  unfold truthy
  refine wpAny_bind (m := callSpecial? (.ref a) (Str.ofString "__bool__")) (wpAny_bind (wpAny_bind (J.type.here ((PySem.W.looks_findIn hK h0).here (wpAny_pure ?_)))))
  refine wpAny_bind (wpAny_bind (J.type.here ((PySem.W.looks_findIn hK h1).here ?_)))
  refine wpAny_bind (wpAny_mono key (fun r s' h' => ?_) fun _ _ z => z)
  obtain ⟨n, t, rfl, q⟩ := h'
  exact wpAny_pure q
end Ow
section
variable {A : AD} {X : Cx} {W : WX} {pins : List (Addr × Obj)} {σ : L2.St} {H : Hp} {s : Shared}
def NeOk (A : AD) (K : PySem.W.Frag) (t : Tb) : Prop := ∀ k g, t.lookup k = some g → ∀ C, A.ca k = some C → PySem.W.findIn K (.ref C) "__ne__" = some (some (.builtin "object.__ne__")) ∧ PySem.W.subIn K (.ref C) (.type "object") = some true
theorem op_neI {t : Tb} {os : List Nat} (T : SpOk A X "__eq__" 2 t) (N : NfOk A X.K t os) (M : NeOk A X.K t) (hu : X.A.units + 64 < cLine) : OpM A X W (compareOp .NotEq) (neI t os) := by
  obtain ⟨r0, c0, q0⟩ := op_neM (A := A) (X := X) (W := W) hu
  refine ⟨fun u v H Q => r0 u v H Q ∨ ∃ x y, Rgt A X.K os H v ∧ rOwn A X t (fun w H1 => ∃ b, asBl w = some b ∧ Q (.bl (!b)) H1) x [y] u [v] H, ?_, fun m st σ H x y u v Q r hx hy k => ?_⟩
  · intro pins s σ H x y v u Q I rx ry h
    rcases h with h | ⟨mx, my, ⟨ty, tv, h1, h2, h3⟩, h⟩
    · exact c0 pins s σ H x y v u Q I rx ry h
    · have key := fun Q' hK => own_call (name := "__eq__") (Q := Q') T I SubB.in1 rfl rx (.cons ry .nil) h hK
      obtain ⟨a, C, f, rfl, f1, f2, ⟨dx, fs, h4⟩, ⟨k, g, g1, g2⟩, hcall⟩ := key (fun v s' => ∃ k, v = .bool k ∧ EP X pins σ Q (.bool (!k)) s') fun w wv H' s' u' I' rw' ⟨m', hy⟩ ⟨b, e, q⟩ => by
        obtain rfl := asBl_of e
        obtain rfl := rv_bl hy rw'
        exact ⟨b, rfl, .bl (!b), H', I', rfl, q⟩
      obtain ⟨P, Z, p, _⟩ := kit_of I ry h1
      obtain ⟨n1, n2⟩ := N.2 k g g1 C g2
      have nf : PySem.W.notFirst X.K C tv = true := by
        cases ty with
        | b n => rw [show tv = .type n from h2]; exact n1 n h3
        | o k2 => obtain ⟨D, d1, d2⟩ := h2; rw [d2]; exact n2 k2 h3 D d1
      obtain ⟨mA, O, _⟩ := ins_get I.hok h4
      obtain ⟨od, J, _⟩ := O.look
      obtain ⟨m1, m2⟩ := M k g g1 C g2
      exact Ow.ne_rich I.kIn J (Z.ty _ _ I.kIn p) nf f1 f2 m1 m2 (by omega) hcall
  · unfold neI at k
    split at k
    · rename_i g e
      split at k
      · rename_i hy'
        exact .inr ⟨x, y, rgt_of r hy hy' N.1, own_of (w := fun b => .bl (!b)) (wV := fun y => V.bl (!y)) (fun y m H => .bl _) r hx (.cons hy .nil) e k⟩
      · exact k.elim
    · exact .inl (q0 m st σ H x y u v Q r hx hy k)
abbrev Kt := List ((TyN × Nat) × Bool)
abbrev Kb := List ((Nat × String) × Bool)
def KtOk (A : AD) (K : PySem.W.Frag) (kt : Kt) (kb : Kb) : Prop :=
  (∀ e ∈ kt, ∀ C, A.ca e.1.2 = some C → ∀ t, TyV A e.1.1 t → PySem.W.kitOne K t (.ref C) = some e.2) ∧ (∀ e ∈ kb, ∀ C, A.ca e.1.1 = some C → PySem.W.kitOne K (.ref C) (.type e.1.2) = some e.2)
def isiOne (kt : Kt) (kb : Kb) (ty : TyN) (c : MV) : Option Bool := match c with
  | .ty n => (match ty with | .b m => kitB m n | .o k => kb.lookup (k, n))
  | .cl k => kt.lookup (ty, k)
  | _ => none
def isiM (kt : Kt) (kb : Kb) (xs : List MV) (st : Sto) : R MV := match xs with
  | [x, c] => (match tyM x st with | some ty => (match isiOne kt kb ty c with | some b => ret (.bl b) st | none => none) | none => none)
  | _ => none
theorem lookup_mem {α β : Type} [BEq α] [LawfulBEq α] {a : α} {b : β} : ∀ {l : List (α × β)}, l.lookup a = some b → (a, b) ∈ l
  | [], h => by cases h
  | (c, d) :: l, h => by
    rw [List.lookup_cons] at h
    split at h
    · rename_i e
      cases h
      rw [eq_of_beq e]
      exact List.mem_cons_self
    · exact List.mem_cons_of_mem _ (lookup_mem h)
theorem isiOne_ok {m : List Addr} {kt : Kt} {kb : Kb} {ty : TyN} {t : Value} {c : MV} {v : V} {b : Bool} (T : KtOk A X.K kt kb) (h : RV (gc A X) m H c v) (ht : TyV A ty t) (e : isiOne kt kb ty c = some b) : ∃ u, ClsV v u ∧ PySem.W.kitOne X.K t u = some b := by
  cases h with
  | ty n =>
    unfold isiOne at e
    simp only at e
    split at e
    · rename_i mm
      rw [show t = .type mm from ht]
      exact ⟨_, .ty n, kit_ty e⟩
    · rename_i k
      obtain ⟨C, c1, c2⟩ := ht
      rw [c2]
      exact ⟨_, .ty n, T.2 _ (lookup_mem e) C c1⟩
  | @cl i a hi => exact ⟨_, .own a, T.1 _ (lookup_mem e) a hi t ht⟩
  | _ => cases e
theorem cl_isi {kt : Kt} {kb : Kb} (T : KtOk A X.K kt kb) (hI : ∀ k C, A.ca k = some C → (∃ e ∈ kt, e.1.1 = .o k) ∨ (∃ e ∈ kb, e.1.1 = k) → ClsI X.K C) : ClM A X W (.builtin "isinstance") (isiM kt kb) := by
  refine ⟨_, call_isi, fun m st σ H xs us Q r h k => ?_⟩
  unfold isiM at k
  split at k
  · rename_i x c
    match us, h with
    | [u, v], .cons hx (.cons hc .nil) =>
    split at k
    · rename_i ty e1
      split at k
      · rename_i b e2
        obtain ⟨t, t1, t2⟩ := tyM_ok r hx e1 fun k z C hC => hI k C hC (by
          subst z
          unfold isiOne at e2
          split at e2
          · exact .inr ⟨_, lookup_mem e2, rfl⟩
          · exact .inl ⟨_, lookup_mem e2, rfl⟩
          · cases e2)
        obtain ⟨w, w1, w2⟩ := isiOne_ok T hc t2 e2
        exact ⟨u, v, t, w, b, rfl, w1, t1, w2, k.ok .refl r _ (.bl b)⟩
      · exact k.elim
    · exact k.elim
  · exact k.elim
theorem kit_own {K : PySem.W.Frag} {t : Value} {C : Addr} {cd : ClassData} {b : Bool} (h1 : PySem.W.clsIn K C = some cd) (h2 : PySem.W.typeIn K (.ref C) = some (.type "type")) (h3 : PySem.W.subIn K t (.ref C) = some b) (h4 : (t == Value.ref C) = true → b = true) : PySem.W.kitOne K t (.ref C) = some b := by
  unfold PySem.W.kitOne
  split
  · rename_i e
    rw [h4 e]
  · unfold PySem.W.kitCls
    simp only [h1, h2, Option.isSome_some, beq_self_eq_true, Bool.and_self, if_true]
    exact h3
theorem kit_blt {K : PySem.W.Frag} {C : Addr} {n : String} {b : Bool} (h1 : PySem.W.kitMeta n = true) (h3 : PySem.W.subIn K (.ref C) (.type n) = some b) : PySem.W.kitOne K (.ref C) (.type n) = some b := by
  unfold PySem.W.kitOne
  split
  · rename_i e
    have := eq_of_beq e
    cases this
  · unfold PySem.W.kitCls
    simp only [h1, if_true]
    exact h3
def eFm (f : DE) : DE := fun ρ st => bnd (f ρ st) fun x st1 => match x with
  | .str y => if y.length ≤ sizeLine then ret (.str y) st1 else none
  | .int i => if i.natAbs.log2 < 1920 then ret (.str (toString i)) st1 else none
  | _ => none
theorem pm_fmt {e : Expr} {f : DE} {pos : Pos} (h : PM A X W e f) : PM A X W (.FormattedValue e (-1) none pos) (eFm f) := by
  refine (pe_fmt h).imp fun σ H Q ⟨m, ρ, st, r, v, k⟩ => ?_
  refine tM.then r v k fun x u st1 m1 H1 r1 e1 v1 hu k1 => ?_
  cases x with
  | str y =>
    cases hu
    dsimp only at k1
    split at k1
    · rename_i hl
      exact .inl ⟨y, rfl, hl, Run.ok k1 .refl r1 _ (.str _)⟩
    · exact k1.elim
  | int i =>
    cases hu
    dsimp only at k1
    split at k1
    · rename_i hl
      exact .inr ⟨i, rfl, hl, Run.ok k1 .refl r1 _ (.str _)⟩
    · exact k1.elim
  | _ => exact k1.elim
def joinM : List DE → Str → DE
  | [], acc => fun _ st => ret (.str acc) st
  | f :: fs, acc => fun ρ st => bnd (f ρ st) fun x st1 => match x with
    | .str y => if (acc ++ y).length ≤ sizeLine then joinM fs (acc ++ y) ρ st1 else none
    | _ => none
inductive PMJ (A : AD) (X : Cx) (W : WX) : List Expr → List DE → Prop where
  | nil : PMJ A X W [] []
  | cons {e : Expr} {f : DE} {es : List Expr} {fs : List DE} (h : PM A X W e f) (r : PMJ A X W es fs) : PMJ A X W (e :: es) (f :: fs)
theorem pmj_pj : ∀ {es : List Expr} {fs : List DE}, PMJ A X W es fs → PJ X es (fs.map (tM (gc A X) W))
  | _, _, .nil => .nil
  | _, _, .cons h r => .cons h (pmj_pj r)
theorem joinM_ok {c : GC} {ρ : MEnv} {Q : VK} : ∀ (fs : List DE) (acc : Str) (m : List Addr) (st : Sto) (H : Hp), Rel c m st H → REnv c m H ρ σ → Run c W σ m H (joinM fs acc ρ st) (kV c Q) → tJs (fs.map (tM c W)) acc σ H fun out H1 => Q (.str out) H1
  | [], acc, m, st, H, r, v, k => k.ok .refl r _ (.str acc)
  | f :: fs, acc, m, st, H, r, v, k => by
    refine tM.then (g := fun x st1 => match x with
      | .str y => if (acc ++ y).length ≤ sizeLine then joinM fs (acc ++ y) ρ st1 else none
      | _ => none) r v k fun x u st1 m1 H1 r1 e1 v1 hu k1 => ?_
    cases x with
    | str y =>
      cases hu
      dsimp only at k1
      split at k1
      · rename_i hl
        exact ⟨y, rfl, hl, joinM_ok fs (acc ++ y) m1 st1 H1 r1 v1 k1⟩
      · exact k1.elim
    | _ => exact k1.elim
def eJn (fs : List DE) : DE := joinM fs Str.empty
theorem pm_join {e1 e2 : Expr} {es : List Expr} {fs : List DE} {pos : Pos} (h : PMJ A X W (e1 :: e2 :: es) fs) : PM A X W (.JoinedStr (e1 :: e2 :: es) pos) (eJn fs) :=
  (pe_joined (pmj_pj h)).imp fun σ H Q ⟨m, ρ, st, r, v, k⟩ => joinM_ok fs _ m st H r v k
theorem pm_join1 {e : Expr} {f : DE} {pos : Pos} (h : PM A X W e f) : PM A X W (.JoinedStr [e] pos) f := pe_joined1 h
end
end CS
namespace CS
open PySem PySem.Spec PyProof.Rows L2
namespace Ow
variable {prog : Program} {w : World} {B : Around} {E : Value → Shared → Prop} {s : Shared} {K : PySem.W.Frag} {a C f : Addr} {ox : Obj} {od : Option Obj}
theorem bool_call {x : Value} {Q : Value → Shared → Prop} (h : wpAny (model prog w) B.in1.in1 (Builtin.«bool.__new__» ⟨[.type "bool", x], []⟩) (fun fin s' => ∃ b, fin = .done (.ret (.bool b)) ∧ Q (.bool b) s') E s) :
    wpAny (model prog w) B (call (.type "bool") [x]) Q E s := by
  have ft := PySem.F.called_bool
  have hcn := PySem.F.newCall_bool_1 x
  obtain ⟨c, tl, hmro⟩ := ft.mro
  have hmade := ft.made
  have hsub := ft.sub
  have hct := PySem.F.typeCall_bool_1 x
  refine wpAny_call (codeAny_of_tree ?_)
  show wpAny _ _ (callAny (.type "bool") _) _ _ _
  refine wpAny_pure ⟨Code.quiet_builtin _ (by decide +kernel), codeAny_builtin PySem.F.entry_type_call ?_⟩
  rw [Around.under_plain (weight_type_call_type "bool" [x] []) (units_type_call_type "bool" [x] [])]
  have h1 := ft.notType
  have h2 := ft.canCreate
  repeat (any_goals (first
    | assumption
    | wp_step))
  refine codeAny_mono (codeAny_call_builtin (R := fun r s' => ∃ b, r = .ok (.ret (.bool b)) ∧ Q (.bool b) s' ∨ (∃ e, r = .error e ∧ E e s')) ft.plain PySem.F.entry_bool_new (wpAny_of_eq hcn (wpAny_mono h (fun fin s' hq => ?_) fun e s' he => ⟨true, .inr ⟨e, rfl, he⟩⟩))) fun r s₁ hr => ?_
  · obtain ⟨b, rfl, q⟩ := hq
    exact ⟨b, .inl ⟨rfl, q⟩⟩
  · obtain ⟨b, ⟨rfl, q⟩ | ⟨e, rfl, he⟩⟩ := hr
    · have hT : s₁.TypeIs (.bool b) "bool" := rfl
      have hli := ft.init.lookup
      have hbi := ft.init.bind (.bool b)
      repeat (any_goals (first
        | assumption
        | wp_step))
      have iN := object_init_meets (rest := [x]) ft.init.lookup ft.made PySem.F.newNe_bool prog w B.in1 (fun r s' => r = .ok (.ret .none) ∧ s' = s₁) s₁ ⟨hT, rfl, rfl⟩
      refine codeAny_mono (codeAny_call_builtin (R := fun r s' => r = .ok (.ret .none) ∧ s' = s₁) ft.init.plain PySem.F.entry_object_init (ft.init.check _ _ _ _ _ _ _ _ hT (PySem.F.args_object_init_2 (.bool b) x) iN)) fun r₂ s₂ hr₂ => ?_
      obtain ⟨rfl, rfl⟩ := hr₂
      repeat (any_goals (first
        | assumption
        | wp_step))
    · exact he
theorem bool_len {Q : Value → Shared → Prop} (hK : K.In s.heap) (J : PySem.W.InstAt s.heap a ox C od) (h0 : PySem.W.findIn K (.ref C) "__bool__" = some none) (h1 : PySem.W.findIn K (.ref C) "__len__" = some (some (.ref f))) (h2 : PySem.W.isFn K (.ref f) = true)
    (hc : wpAny (model prog w) B.in1.in1.in1 (call (.ref f) [.ref a]) (fun v s' => ∃ n t, v = .int n t ∧ 0 ≤ n ∧ n < 2 ^ 63 ∧ Q (.bool (n != 0)) { s' with toks := s'.toks + 1 }) E s) :
    wpAny (model prog w) B (call (.type "bool") [.ref a]) Q E s := by
  refine bool_call ?_
  have f1 := PySem.F.conv_sub_bool
  have tr : wpAny (model prog w) B.in1.in1 (truthy (.ref a)) (fun b s' => Q (.bool b) s') E s := truth_len (B := B.in1.in1) hK J h0 h1 h2 hc
  repeat (any_goals (first
    | assumption
    | (refine wpAny_bind (m := truthy (.ref a)) (wpAny_mono tr (fun b s' q => ?_) fun _ _ z => z))
    | (refine wpAny_mono tr (fun b s' q => ?_) fun _ _ z => z)
    | exact ⟨_, rfl, q⟩
    | wp_step))
end Ow
section
variable {A : AD} {X : Cx} {W : WX} {pins : List (Addr × Obj)} {σ : L2.St} {H : Hp} {s : Shared}
def boolI (t : Tb) (xs : List MV) (st : Sto) : R MV := match xs with
  | [x] => (match ownG t x st with
    | some g => bndP (g [x] st) asLen fun n st1 => ret (.bl (n != 0)) st1
    | none => (match x with | .bl b => ret (.bl b) st | .int i => ret (.bl (i != 0)) st | _ => none))
  | _ => none
def NbOk (A : AD) (K : PySem.W.Frag) (t : Tb) : Prop := ∀ k g, t.lookup k = some g → ∀ C, A.ca k = some C → PySem.W.findIn K (.ref C) "__bool__" = some none
theorem SubB.in3 : SubB X X.A.in1.in1.in1 := ⟨rfl, rfl, rfl, Nat.le_add_right _ _, by show X.A.units + 1 + 1 + 1 ≤ X.A.units + 16; omega⟩
theorem cl_boolI {t : Tb} (T : SpOk A X "__len__" 1 t) (N : NbOk A X.K t) : ClM A X W (.type "bool") (boolI t) := by
  refine ⟨fun us H Q => ((∃ i, us = [.int i] ∧ Q (.bl (i != 0)) H) ∨ ∃ k, us = [.bl k] ∧ Q (.bl k) H) ∨ ∃ x u, us = [u] ∧ rOwn A X t (fun v H1 => ∃ y, asLen v = some y ∧ Q (.bl (y != 0)) H1) x [] u [] H, ?_, fun m st σ H xs us Q r h k => ?_⟩
  · intro pins s σ H xs us Q I r h
    rcases h with h | ⟨x, u, rfl, h⟩
    · exact call_bool1 pins s σ H xs us Q I r h
    · obtain ⟨v, rfl, r1⟩ := vals1 r
      have key := fun Q' hK => own_call (name := "__len__") (Q := Q') T I SubB.in3 rfl r1 .nil h hK
      obtain ⟨a, C, f, rfl, f1, f2, ⟨dx, fs, h3⟩, ⟨k, g, g1, g2⟩, hcall⟩ := key (fun v s' => ∃ n t, v = .int n t ∧ 0 ≤ n ∧ n < 2 ^ 63 ∧ EP X pins σ Q (.bool (n != 0)) { s' with toks := s'.toks + 1 }) fun y w H' s' u' I' rw' ⟨m', hy⟩ ⟨n, e, q⟩ => by
        obtain ⟨rfl, n0, n1⟩ := asLen_of e
        obtain ⟨tk, rfl⟩ := rv_int hy rw'
        exact ⟨n, tk, rfl, n0, n1, .bl (n != 0), H', I'.tok _, rfl, q⟩
      obtain ⟨mA, O, _⟩ := ins_get I.hok h3
      obtain ⟨od, J, _⟩ := O.look
      exact Ow.bool_len I.kIn J (N k g g1 C g2) f1 f2 hcall
  · unfold boolI at k
    split at k
    · rename_i x
      cases h with
      | cons h h' =>
      cases h'
      split at k
      · rename_i g e
        exact .inr ⟨x, _, rfl, own_of (w := fun y => .bl (y != 0)) (wV := fun y => V.bl (y != 0)) (fun y m H => .bl _) r h .nil e k⟩
      · split at k
        · cases h; exact .inl (.inr ⟨_, rfl, k.ok .refl r _ (.bl _)⟩)
        · cases h; exact .inl (.inl ⟨_, rfl, k.ok .refl r _ (.bl _)⟩)
        · exact k.elim
    · exact k.elim
end
end CS
namespace CS
open PySem PySem.Spec PyProof.Rows L2
abbrev Fn := List MV → Sto → R MV
mutual
theorem RV.cg {c c' : GC} {m : List Addr} {H : Hp} (hK : c.K = c'.K) (hf : ∀ i a, c.fa i = some a → c'.fa i = some a) (hc : ∀ i a, c.ca i = some a → c'.ca i = some a) : ∀ {x : MV} {v : V}, RV c m H x v → RV c' m H x v
  | _, _, .non => .non
  | _, _, .bl b => .bl b
  | _, _, .int i => .int i
  | _, _, .str x => .str x
  | _, _, .tup h r => .tup (by rw [← hK]; exact h) (RVs.cg hK hf hc r)
  | _, _, .ref h => .ref h
  | _, _, .fn h => .fn (hf _ _ h)
  | _, _, .cl h => .cl (hc _ _ h)
  | _, _, .ty n => .ty n
theorem RVs.cg {c c' : GC} {m : List Addr} {H : Hp} (hK : c.K = c'.K) (hf : ∀ i a, c.fa i = some a → c'.fa i = some a) (hc : ∀ i a, c.ca i = some a → c'.ca i = some a) : ∀ {xs : List MV} {vs : List V}, RVs c m H xs vs → RVs c' m H xs vs
  | _, _, .nil => .nil
  | _, _, .cons h r => .cons (RV.cg hK hf hc h) (RVs.cg hK hf hc r)
end
theorem RF.cg {c c' : GC} {m : List Addr} {H : Hp} (hK : c.K = c'.K) (hf : ∀ i a, c.fa i = some a → c'.fa i = some a) (hc : ∀ i a, c.ca i = some a → c'.ca i = some a) : ∀ {fs : List (Str × MV)} {gs : List (Str × V)}, RF c m H fs gs → RF c' m H fs gs
  | _, _, .nil => .nil
  | _, _, .cons h r => .cons ⟨h.1, h.2.cg hK hf hc⟩ (RF.cg hK hf hc r)
theorem RO.cg {c c' : GC} {m : List Addr} {H : Hp} {a : Addr} (hK : c.K = c'.K) (hf : ∀ i a, c.fa i = Option.some a → c'.fa i = Option.some a) (hc : ∀ i a, c.ca i = Option.some a → c'.ca i = Option.some a) {o : MO} (r : RO c m H a o) : RO c' m H a o := by
  cases o with
  | lst xs => obtain ⟨vs, h, q⟩ := r; exact ⟨vs, h, q.cg hK hf hc⟩
  | frz xs => obtain ⟨u, vs, h, q⟩ := r; exact ⟨u, vs, h, q.cg hK hf hc⟩
  | ins k fs => obtain ⟨C, dx, gs, h0, h, q⟩ := r; exact ⟨C, dx, gs, hc _ _ h0, h, RF.cg hK hf hc q⟩
  | dct => exact r
theorem Ext.cg {c c' : GC} {m m' : List Addr} {H H' : Hp} (hK : c.K = c'.K) (e : Ext c m H m' H') : Ext c' m H m' H' :=
  ⟨e.pre, fun b xs h => by rw [← hK] at h ⊢; exact e.tup b xs h, e.fresh, e.frame, e.live⟩
mutual
def noFn (n : Nat) : MV → Bool
  | .tup xs => noFns n xs
  | .fn i => decide (i < n)
  | _ => true
def noFns (n : Nat) : List MV → Bool
  | [] => true
  | x :: xs => noFn n x && noFns n xs
end
def noFnF (n : Nat) : List (Str × MV) → Bool
  | [] => true
  | x :: xs => noFn n x.2 && noFnF n xs
def noFnO (n : Nat) : MO → Bool
  | .lst xs => noFns n xs
  | .frz xs => noFns n xs
  | .ins _ fs => noFnF n fs
  | .dct => true
mutual
theorem RV.lv {c c' : GC} {m : List Addr} {H : Hp} {n : Nat} (hK : c.K = c'.K) (hf : ∀ i a, i < n → c.fa i = some a → c'.fa i = some a) (hc : ∀ i a, c.ca i = some a → c'.ca i = some a) : ∀ {x : MV} {v : V}, RV c m H x v → noFn n x = true → RV c' m H x v
  | _, _, .non, _ => .non
  | _, _, .bl b, _ => .bl b
  | _, _, .int i, _ => .int i
  | _, _, .str x, _ => .str x
  | _, _, .tup h r, k => .tup (by rw [← hK]; exact h) (RVs.lv hK hf hc r (by unfold noFn at k; exact k))
  | _, _, .ref h, _ => .ref h
  | _, _, .fn h, k => .fn (hf _ _ (by unfold noFn at k; exact of_decide_eq_true k) h)
  | _, _, .cl h, _ => .cl (hc _ _ h)
  | _, _, .ty n, _ => .ty n
theorem RVs.lv {c c' : GC} {m : List Addr} {H : Hp} {n : Nat} (hK : c.K = c'.K) (hf : ∀ i a, i < n → c.fa i = some a → c'.fa i = some a) (hc : ∀ i a, c.ca i = some a → c'.ca i = some a) : ∀ {xs : List MV} {vs : List V}, RVs c m H xs vs → noFns n xs = true → RVs c' m H xs vs
  | _, _, .nil, _ => .nil
  | _, _, .cons h r, k => by
    unfold noFns at k
    rw [Bool.and_eq_true] at k
    exact .cons (RV.lv hK hf hc h k.1) (RVs.lv hK hf hc r k.2)
end
theorem RF.lv {c c' : GC} {m : List Addr} {H : Hp} {n : Nat} (hK : c.K = c'.K) (hf : ∀ i a, i < n → c.fa i = some a → c'.fa i = some a) (hc : ∀ i a, c.ca i = some a → c'.ca i = some a) : ∀ {fs : List (Str × MV)} {gs : List (Str × V)}, RF c m H fs gs → noFnF n fs = true → RF c' m H fs gs
  | _, _, .nil, _ => .nil
  | _, _, .cons h r, k => by
    unfold noFnF at k
    rw [Bool.and_eq_true] at k
    exact .cons ⟨h.1, h.2.lv hK hf hc k.1⟩ (RF.lv hK hf hc r k.2)
theorem RO.lv {c c' : GC} {m : List Addr} {H : Hp} {a : Addr} {n : Nat} (hK : c.K = c'.K) (hf : ∀ i a, i < n → c.fa i = Option.some a → c'.fa i = Option.some a) (hc : ∀ i a, c.ca i = Option.some a → c'.ca i = Option.some a) {o : MO} (r : RO c m H a o) (k : noFnO n o = true) : RO c' m H a o := by
  cases o with
  | lst xs => obtain ⟨vs, h, q⟩ := r; exact ⟨vs, h, q.lv hK hf hc k⟩
  | frz xs => obtain ⟨u, vs, h, q⟩ := r; exact ⟨u, vs, h, q.lv hK hf hc k⟩
  | ins j fs => obtain ⟨C, dx, gs, h0, h, q⟩ := r; exact ⟨C, dx, gs, hc _ _ h0, h, RF.lv hK hf hc q k⟩
  | dct => exact r
mutual
theorem RV.noFn {c : GC} {m : List Addr} {H : Hp} {n : Nat} (hn : ∀ i a, c.fa i = some a → i < n) : ∀ {x : MV} {v : V}, RV c m H x v → CS.noFn n x = true
  | _, _, .non => by unfold CS.noFn; rfl
  | _, _, .bl b => by unfold CS.noFn; rfl
  | _, _, .int i => by unfold CS.noFn; rfl
  | _, _, .str x => by unfold CS.noFn; rfl
  | _, _, .tup h r => by unfold CS.noFn; exact RVs.noFn hn r
  | _, _, .ref h => by unfold CS.noFn; rfl
  | _, _, .fn h => by unfold CS.noFn; exact decide_eq_true (hn _ _ h)
  | _, _, .cl h => by unfold CS.noFn; rfl
  | _, _, .ty n => by unfold CS.noFn; rfl
theorem RVs.noFn {c : GC} {m : List Addr} {H : Hp} {n : Nat} (hn : ∀ i a, c.fa i = some a → i < n) : ∀ {xs : List MV} {vs : List V}, RVs c m H xs vs → noFns n xs = true
  | _, _, .nil => rfl
  | _, _, .cons h r => by unfold noFns; rw [RV.noFn hn h, RVs.noFn hn r]; rfl
end
theorem RF.noFn {c : GC} {m : List Addr} {H : Hp} {n : Nat} (hn : ∀ i a, c.fa i = some a → i < n) : ∀ {fs : List (Str × MV)} {gs : List (Str × V)}, RF c m H fs gs → noFnF n fs = true
  | _, _, .nil => rfl
  | _, _, .cons h r => by unfold noFnF; rw [h.2.noFn hn, RF.noFn hn r]; rfl
theorem RO.noFn {c : GC} {m : List Addr} {H : Hp} {a : Addr} {n : Nat} (hn : ∀ i a, c.fa i = Option.some a → i < n) {o : MO} (r : RO c m H a o) : noFnO n o = true := by
  cases o with
  | lst xs => obtain ⟨vs, h, q⟩ := r; exact q.noFn hn
  | frz xs => obtain ⟨u, vs, h, q⟩ := r; exact q.noFn hn
  | ins j fs => obtain ⟨C, dx, gs, h0, h, q⟩ := r; exact RF.noFn hn q
  | dct => rfl
def stFree (n : Nat) (st st' : Sto) : Bool := (List.range st'.length).all fun i => match st'[i]? with
  | some b => noFnO n b || (match st[i]? with | some a => eqO b a | none => false)
  | none => true
def leave {α : Type} (ok : α → Bool) (n : Nat) (st : Sto) : R α → R α
  | none => none
  | some (.ok a, st') => if stFree n st st' && ok a then some (.ok a, st') else none
  | some (.error x, st') => if stFree n st st' && noFnF n x.2 then some (.error x, st') else none
theorem Rel.lv {c c' : GC} {m m' : List Addr} {st st' : Sto} {H H' : Hp} {n : Nat} (hK : c.K = c'.K) (hn : ∀ i a, c'.fa i = some a → i < n) (hf : ∀ i a, i < n → c.fa i = some a → c'.fa i = some a) (hc : ∀ i a, c.ca i = some a → c'.ca i = some a) (ht : c.tb = c'.tb)
    (r0 : Rel c' m st H) (r : Rel c m' st' H') (e : Ext c m H m' H') (k : stFree n st st' = true) : Rel c' m' st' H' := by
  have e' : Ext c' m H m' H' := e.cg hK
  refine ⟨r.len, r.nd, fun i o h => ?_, r0.gr.trans e', by rw [← ht]; exact r.tabs⟩
  obtain ⟨a, ha, q⟩ := r.obj i o h
  have hi : i < st'.length := (List.getElem?_eq_some_iff.mp h).1
  have ki := List.all_eq_true.mp k i (List.mem_range.mpr hi)
  rw [h] at ki
  simp only [Bool.or_eq_true] at ki
  refine ⟨a, ha, q.lv hK hf hc (ki.elim id fun z => ?_)⟩
  cases q0 : st[i]? with
  | none => rw [q0] at z; cases z
  | some o0 =>
    rw [q0] at z
    obtain ⟨b, hb, qb⟩ := r0.obj i o0 q0
    rw [eqO_of z]
    exact qb.noFn hn
theorem Run.lv {c c' : GC} {W : WX} {σ : L2.St} {m : List Addr} {st : Sto} {H : Hp} {n : Nat} (hK : c.K = c'.K) (hn : ∀ i a, c'.fa i = some a → i < n) (hf : ∀ i a, i < n → c.fa i = some a → c'.fa i = some a) (hc : ∀ i a, c.ca i = some a → c'.ca i = some a) (ht : c.tb = c'.tb)
    (r0 : Rel c' m st H) {r : R MV} {Q : VK} (h : Run c' W σ m H (leave (CS.noFn n) n st r) (kV c' Q)) : Run c W σ m H r (kV c Q) := by
  match r, h with
  | none, h => exact h
  | some (.ok a, st'), h =>
    intro m' H' e r1 u hu
    unfold leave at h
    simp only at h
    split at h
    · rename_i k
      rw [Bool.and_eq_true] at k
      exact h m' H' (e.cg hK) (Rel.lv hK hn hf hc ht r0 r1 e k.1) u (hu.lv hK hf hc k.2)
    · exact h.elim
  | some (.error x, st'), h =>
    intro m' H' cls d e r1 hx
    unfold leave at h
    simp only at h
    split at h
    · rename_i k
      rw [Bool.and_eq_true] at k
      refine h m' H' cls d (e.cg hK) (Rel.lv hK hn hf hc ht r0 r1 e k.1) ?_
      obtain ⟨C, hC, hc2, z⟩ := hx
      exact ⟨C, hc _ _ hC, hc2, z.imp id fun ⟨dd, gs, a1, a2, a3⟩ => ⟨dd, gs, a1, a2, RF.lv hK hf hc a3 k.2⟩⟩
    · exact h.elim
structure CloG (P : Program) (w : World) (K : PySem.W.Frag) (mg : Str → Option Value) (base : Heap) (A : AD) (k : Nat) (f : Addr) (ar : Nat) (g : Fn) : Prop where
  ex : ∃ (fd : FuncData) (ps : List Str), ps.length = ar ∧ FnG P w K mg base k f fd ps (spM (gcA A P w K mg base) g ps.length) ∧ Binds K fd ps [] ∧ ∃ oc od sl, base.get? f = some ⟨oc, od, .func fd, sl⟩
structure LamP (sc scope : Scope) (ps : List Str) : Prop where
  kind : scope.kind = .function
  co : scope.isCoroutine = false
  gen : scope.isGenerator = false
  nc : ∀ y ∈ scope.names, y.2 ≠ .cell
  lo : ∀ y ∈ scope.names, y.2 = .local → y.1 ∈ ps
  pl : ∀ x ∈ ps, scope.names.lookup x = some .local
  nd : ps.Nodup
  free : ∀ y ∈ scope.names, y.2 = .free → sc.names.lookup y.1 = some .cell ∨ sc.names.lookup y.1 = some .free
def lamPB (sc scope : Scope) (ps : List Str) : Bool :=
  decide (scope.kind = .function) && !scope.isCoroutine && !scope.isGenerator && decide ps.Nodup && (ps.all fun x => decide (scope.names.lookup x = some .local)) &&
    scope.names.all fun y => !decide (y.2 = .cell) && (!decide (y.2 = .local) || decide (y.1 ∈ ps)) && (!decide (y.2 = .free) || decide (sc.names.lookup y.1 = some .cell) || decide (sc.names.lookup y.1 = some .free))
theorem lamP_by {sc scope : Scope} {ps : List Str} (h : lamPB sc scope ps = true) : LamP sc scope ps := by
  unfold lamPB at h
  simp only [Bool.and_eq_true, Bool.or_eq_true, Bool.not_eq_true', decide_eq_true_eq, decide_eq_false_iff_not, List.all_eq_true] at h
  obtain ⟨⟨⟨⟨⟨h1, h2⟩, h3⟩, h4⟩, h5⟩, h6⟩ := h
  refine ⟨h1, h2, h3, fun y hy => (h6 y hy).1.1, fun y hy e => ?_, h5, h4, fun y hy e => ?_⟩
  · rcases (h6 y hy).1.2 with z | z
    · exact absurd e z
    · exact z
  · rcases (h6 y hy).2 with (z | z) | z
    · exact absurd e z
    · exact .inl z
    · exact .inr z
theorem LamP.has {X : Cx} {scope : Scope} {ps : List Str} (L : LamP X.env.scope scope ps) (ok : X.Ok) : ∀ y ∈ scope.names, y.2 = .free → ∃ c, X.env.cells.lookup y.1 = some c := fun y hy e => by
  rcases L.free y hy e with k | k
  · exact ok.has _ (.inl k)
  · exact ok.has _ (.inr k)
def capM {α : Type} : List Bool → List (Option α) → List (Option α)
  | _, [] => []
  | [], _ :: xs => none :: capM [] xs
  | b :: bs, x :: xs => (if b then x else none) :: capM bs xs
theorem capM_len {α : Type} : ∀ (bs : List Bool) (xs : List (Option α)), (capM bs xs).length = xs.length
  | _, [] => by cases ‹List Bool› <;> rfl
  | [], _ :: xs => by simp [capM, capM_len]
  | b :: bs, x :: xs => by simp [capM, capM_len]
theorem capM_at {α : Type} : ∀ {bs : List Bool} {xs : List (Option α)} {i : Nat} {y : α}, (capM bs xs)[i]? = some (some y) → xs[i]? = some (some y) ∧ bs[i]? = some true
  | bs, [], i, y, h => by cases bs <;> simp [capM] at h
  | [], _ :: xs, 0, y, h => by simp [capM] at h
  | [], _ :: xs, i + 1, y, h => by
    have := capM_at (bs := []) (xs := xs) (i := i) (y := y) (by simpa [capM] using h)
    simp at this
  | b :: bs, x :: xs, 0, y, h => by
    cases b with
    | true => simpa [capM] using h
    | false => simp [capM] at h
  | b :: bs, x :: xs, i + 1, y, h => by
    have := capM_at (bs := bs) (xs := xs) (i := i) (y := y) (by simpa [capM] using h)
    simpa using this
theorem capM_put {α : Type} : ∀ {bs : List Bool} {xs : List (Option α)} {i : Nat} {y : α}, xs[i]? = some (some y) → bs[i]? = some true → (capM bs xs)[i]? = some (some y)
  | bs, [], i, y, h, _ => by simp at h
  | [], _ :: xs, i, y, h, k => by simp at k
  | b :: bs, x :: xs, 0, y, h, k => by
    simp at k
    subst k
    simpa [capM] using h
  | b :: bs, x :: xs, i + 1, y, h, k => by
    have := capM_put (bs := bs) (xs := xs) (i := i) (y := y) (by simpa using h) (by simpa using k)
    simpa [capM] using this
def capOk (N : List Str) (scope : Scope) (bs : List Bool) : Bool := (List.range N.length).all fun i => match bs[i]?, N[i]? with
  | some true, some x => decide (scope.names.lookup x = some .free)
  | _, _ => true
theorem capOk_at {N : List Str} {scope : Scope} {bs : List Bool} (h : capOk N scope bs = true) {i : Nat} {x : Str} (hx : N[i]? = some x) (hb : bs[i]? = some true) : scope.names.lookup x = some .free := by
  have hi : i < N.length := (List.getElem?_eq_some_iff.mp hx).1
  have z := List.all_eq_true.mp h i (List.mem_range.mpr hi)
  rw [hb, hx] at z
  exact of_decide_eq_true z
def lcx (X : Cx) (base : Heap) (ps : List Str) (A : Around) (outer : List Env) (s : Shared) (H : Hp) (E : XK) (scope : Scope) (f c' : Addr) : Cx where
  prog := X.prog
  w := X.w
  K := X.K
  mg := X.mg
  base := base
  A := A.deeper (LamX.lamEnv X scope s.heap.objs.size f c')
  N := ps ++ X.N
  s_0 := s
  H_0 := H
  env := LamX.lamEnv X scope s.heap.objs.size f c'
  outer := outer
  stack := LamX.lamEnv X scope s.heap.objs.size f c' :: outer
  ex := []
  fn := fun _ => false
  calm := true
  pn := []
  xe := fun e s' => wpAny (model X.prog X.w) (A.deeper (LamX.lamEnv X scope s.heap.objs.size f c')) (leaving (LamX.lamEnv X scope s.heap.objs.size f c') e) (fun _ s'' => L2N.CX X.prog X.w outer H s E e s'') (fun e' s'' => L2N.CX X.prog X.w outer H s E e' s'') s'
section
variable {X : Cx} {pins : List (Addr × Obj)} {σ : L2.St} {H H2 : Hp} {s s2 : Shared}
theorem zip_rev_lookup {ps : List Str} {us : List Value} (nd : ps.Nodup) (hl : us.length = ps.length) {i : Nat} {x : Str} {u : Value} (hx : ps[i]? = some x) (hu : us[i]? = some u) : (ps.zip us).reverse.lookup x = some u := by
  have key : ∀ (l : List (Str × Value)), (l.map (·.1)).Nodup → (x, u) ∈ l → l.lookup x = some u := by
    intro l
    induction l with
    | nil => intro _ h; cases h
    | cons p l ih =>
      intro hn hm
      rw [List.lookup_cons]
      rw [List.map_cons, List.nodup_cons] at hn
      rcases List.mem_cons.mp hm with e | hm
      · rw [← e]; simp
      · have ne : (x == p.1) = false := by
          cases q : (x == p.1) with
          | false => rfl
          | true =>
            have e := eq_of_beq q
            exact absurd (List.mem_map.mpr ⟨(x, u), hm, e⟩) hn.1
        rw [ne]
        exact ih hn.2 hm
  refine key _ ?_ ?_
  · rw [List.map_reverse, List.map_fst_zip (by omega)]
    exact (List.reverse_perm ps).nodup_iff.mpr nd
  · rw [List.mem_reverse]
    exact List.mem_of_getElem? (i := i) (by rw [List.getElem?_zip_eq_some]; exact ⟨hx, hu⟩)
theorem lcx_start {base : Heap} {ps : List Str} {A : Around} {outer : List Env} {E : XK} {scope : Scope} {f c' : Addr} {h₁ : Heap} {tk : Nat} {bs : List Bool} {us : List Value} {vs : List V} (I : Inv X pins σ H s) (hcab : ∀ x c, X.env.cells.lookup x = some c → X.s_0.heap.objs.size ≤ c) (L : LamP X.env.scope scope ps) (hb : capOk X.N scope bs = true)
    (e0 : Env0 X.prog X.w X.K X.mg base A outer s2 H2) (hd : A.handled = none) (hbase : ∀ b o, s.heap.get? b = some o → H b = none → b ∉ frs X.stack → base.get? b = some o) (hr : Vals vs us) (hl : us.length = ps.length)
    (hns : h₁.Ns s2.heap.objs.size fun y => (ps.zip us).reverse.lookup y) (kp : ∀ b o, s2.heap.get? b = some o → h₁.get? b = some o) :
    Inv (lcx X base ps A outer s2 H2 E scope f c') [] (vs.map some ++ capM bs σ) H2 { s2 with heap := h₁, toks := tk } := by
  have hfree := L.has I.ok
  have cm : ∀ {y c}, (cloFrom X.env.cells scope.names []).lookup y = some c → X.env.cells.lookup y = some c := fun {y c} e => by
    rcases cloFrom_mem (PySem.mem_of_lookup e) with hm | ⟨h1, h2⟩
    · cases hm
    · obtain ⟨c1, hc⟩ := hfree _ h1 rfl
      have hc : X.env.cells.lookup y = some c1 := hc
      have e2 : c = c1 := by
        rw [h2, hc] <;> rfl
      rw [e2]; exact hc
  have look : ∀ {y}, scope.names.lookup y = some .free → ∃ c, (cloFrom X.env.cells scope.names []).lookup y = some c := fun {y} hl =>
    mem_lookup (cloFrom_has (cells := X.env.cells) (acc := []) (show (y, NameKind.free) ∈ scope.names from PySem.mem_of_lookup hl))
  have notFr : ∀ {y : Str} {c : Addr}, X.env.cells.lookup y = some c → c ∉ frs X.stack := fun {y c} e hm => by
    rcases List.mem_cons.mp (I.stkSub _ hm) with z | z
    · exact I.cne y c e z
    · obtain ⟨_, o2, ho2, _⟩ := I.ok.funs.mem z
      exact Nat.lt_irrefl _ (Nat.lt_of_lt_of_le (Heap.lt_size ho2) (hcab y c e))
  have cellB : ∀ {y : Str} {c : Addr} {v : Option Value}, X.env.cells.lookup y = some c → H c = none → s.heap.IsCell c v → ∃ o, base.get? c = some o ∧ h₁.get? c = some o ∧ s2.heap.get? c = some o ∧ H2 c = none ∧ h₁.IsCell c v := fun {y c v} e n q => by
    have nf := notFr e
    obtain ⟨o, ho, hd⟩ := q
    have b1 := hbase c o ho n nf
    obtain ⟨b2, b3⟩ := e0.bs c o b1
    exact ⟨o, b1, kp _ _ b2, b2, b3, o, kp _ _ b2, hd⟩
  have noA : ∀ b : Addr, b ∉ (lcx X base ps A outer s2 H2 E scope f c').ex := fun b z => absurd (show b ∈ ([] : List Addr) from z) (by simp)
  have lv : vs.length = ps.length := by rw [Paired.length hr]; exact hl
  refine ⟨⟨e0.mod, L.kind, rfl, rfl, Nat.le_refl _, fun y z c e1 e2 => I.ok.inj y z c (cm e1) (cm e2), fun y hy => ?_, fun y c z _ => ?_, fun _ => hd, Around.frames_deeper e0.frames, .inr ⟨rfl, rfl⟩, fun b z => absurd z (noA b), e0.bs, e0.bsz, fun b _ _ => noA b,
      fun b z => absurd z (noA b), e0.funs, e0.frf⟩,
    rfl, e0.bare, Un.kept kp, ⟨_, hns, fun i y v e1 e2 e3 => ?_⟩, fun y c e => ?_, e0.hok.fresh (Nat.le_refl _), fun y c e => ?_, fun q hq => absurd (show q ∈ ([] : List (Addr × Obj)) ++ [] from hq) (by simp), e0.hok.kept kp, ?_⟩
  · have hy : scope.names.lookup y = some .cell ∨ scope.names.lookup y = some .free := hy
    rcases hy with hy | hy
    · exact absurd rfl (L.nc _ (PySem.mem_of_lookup hy))
    · exact look hy
  · exact absurd (show false = true from z) Bool.false_ne_true
  · have e3 : Vis scope y := e3
    have e1 : (ps ++ X.N)[i]? = some y := e1
    by_cases hi : i < ps.length
    · rw [List.getElem?_append_left hi] at e1
      rw [List.getElem?_append_left (by rw [List.length_map, lv]; exact hi), List.getElem?_map] at e2
      cases q : vs[i]? with
      | none => rw [q] at e2; cases e2
      | some v' =>
        rw [q] at e2
        cases e2
        obtain ⟨u, hu, ru⟩ := hr.get q
        refine ⟨u, ru, .inl ⟨L.pl y (List.mem_of_getElem? e1), ?_⟩⟩
        exact zip_rev_lookup L.nd hl e1 hu
    · rw [List.getElem?_append_right (by omega)] at e1
      rw [List.getElem?_append_right (by rw [List.length_map, lv]; omega)] at e2
      rw [List.length_map, lv] at e2
      obtain ⟨e4, e5⟩ := capM_at e2
      have k := capOk_at hb e1 e5
      obtain ⟨m, hn, hlk⟩ := I.loc
      have hvis : Vis X.env.scope y := (L.free _ (PySem.mem_of_lookup k) rfl).elim (fun k => .inr (.inl k)) (fun k => .inr (.inr k))
      obtain ⟨w', r, q⟩ := hlk _ y v e1 e4 hvis
      obtain ⟨c2, h2⟩ := look k
      refine ⟨w', r, .inr ⟨.inr k, c2, h2, ?_⟩⟩
      have c1 := cm h2
      rcases q with ⟨k', _⟩ | ⟨_, c3, e', z⟩
      · have k' : X.env.scope.names.lookup y = some .local := k'
        rcases L.free _ (PySem.mem_of_lookup k) rfl with k2 | k2 <;> rw [show X.env.scope.names.lookup y = _ from k2] at k' <;> cases k'
      · rw [c1] at e'
        cases e'
        obtain ⟨_, _, _, _, _, z2⟩ := cellB c1 (I.freeC y _ c1) z
        exact z2
  · obtain ⟨w', z⟩ := I.cell y c (cm e)
    obtain ⟨_, _, _, _, _, z2⟩ := cellB (cm e) (I.freeC y c (cm e)) z
    exact ⟨w', z2⟩
  · obtain ⟨v, z⟩ := I.cell y c (cm e)
    obtain ⟨_, _, _, _, n2, _⟩ := cellB (cm e) (I.freeC y c (cm e)) z
    exact n2
  · show (vs.map some ++ capM bs σ).length = (ps ++ X.N).length
    rw [List.length_append, List.length_append, List.length_map, capM_len, lv, I.len]
end
end CS
namespace CS
open PySem PySem.Spec PyProof.Rows L2
def finE (st : Sto) : R MV → R MV
  | none => none
  | some (.ok v, st') => if lowV st.length v then ret v (gcS st st') else ret v st'
  | some (.error x, st') => if lowX st.length x then some (.error x, gcS st st') else some (.error x, st')
def lamM (f : DE) (bs : List Bool) (n : Nat) (ρ : MEnv) : Fn := fun args st => if args.length = n then finE st (f (args.map some ++ capM bs ρ) st) else none
theorem finE_of {c : GC} {W W' : WX} {σ σ' : L2.St} {m : List Addr} {st : Sto} {H : Hp} {r : R MV} {Q : VK} (rl : Rel c m st H) (h : Run c W σ m H (finE st r) (kV c Q)) (hW : ∀ cls d H', W cls d σ H' → W' cls d σ' H') : Run c W' σ' m H r (kV c Q) := by
  match r, h with
  | none, h => exact h
  | some (.ok v, st'), h =>
    intro m' H' e r' u hv
    unfold finE at h
    simp only at h
    split at h
    · rename_i lv
      obtain ⟨r2, e2⟩ := gc_rel rl e r'
      exact Run.ok h e2 r2 u (RV.low (gcM_at rl e) hv lv)
    · exact Run.ok h e r' u hv
  | some (.error x, st'), h =>
    intro m' H' cls d e r' hx
    unfold finE at h
    simp only at h
    split at h
    · rename_i lv
      obtain ⟨r2, e2⟩ := gc_rel rl e r'
      refine hW _ _ _ (h _ _ cls d e2 r2 ?_)
      obtain ⟨C, hC, hc, z⟩ := hx
      exact ⟨C, hC, hc, z.imp id fun ⟨dd, gs, a1, a2, a3⟩ => ⟨dd, gs, a1, a2, RF.low (gcM_at rl e) a3 lv⟩⟩
    · exact hW _ _ _ (h _ _ cls d e r' hx)
theorem REnv.cap {c : GC} {m : List Addr} {H : Hp} {ρ : MEnv} {σ : L2.St} {xs : List MV} {vs : List V} {bs : List Bool} (hx : RVs c m H xs vs) (v : REnv c m H ρ σ) : REnv c m H (xs.map some ++ capM bs ρ) (vs.map some ++ capM bs σ) := by
  refine ⟨by rw [List.length_append, List.length_append, List.length_map, List.length_map, capM_len, capM_len, hx.length, v.len], fun i x h => ?_⟩
  by_cases hi : i < xs.length
  · rw [List.getElem?_append_left (by simpa using hi), List.getElem?_map] at h
    cases q : xs[i]? with
    | none => rw [q] at h; cases h
    | some y =>
      rw [q] at h
      cases h
      obtain ⟨u, h1, h2⟩ := hx.get' q
      refine ⟨u, ?_, h2⟩
      rw [List.getElem?_append_left (by rw [List.length_map, ← hx.length]; exact hi), List.getElem?_map, h1]
      rfl
  · rw [List.getElem?_append_right (by rw [List.length_map]; omega), List.length_map] at h
    obtain ⟨h1, h2⟩ := capM_at h
    obtain ⟨u, h3, h4⟩ := v.at_ _ _ h1
    refine ⟨u, ?_, h4⟩
    rw [List.getElem?_append_right (by rw [List.length_map, ← hx.length]; omega), List.length_map, ← hx.length]
    exact capM_put h3 h2
section
variable {X : Cx} {pins : List (Addr × Obj)} {σ : L2.St} {H : Hp} {s : Shared} {A' : AD} {base' : Heap} {ps : List Str} {scope : Scope} {f c' : Addr} {params : Arguments} {body : Expr} {pm ctv : Value} {bs : List Bool} {fb : DE} {m : List Addr} {ρ : MEnv} {k : Nat}
theorem clo_fnG (I : Inv X pins σ H s) (hcab : ∀ x c, X.env.cells.lookup x = some c → X.s_0.heap.objs.size ≤ c) (L : LamP X.env.scope scope ps) (hb : capOk X.N scope bs = true)
    (hf : base'.get? f = some (PySem.W.kla_obj "<lambda>" (X.env.qual ++ "<lambda>") params body scope (cloFrom X.env.cells scope.names []) pm c' ctv)) (hc : H c' = some (LamX.CodeO c' (X.env.qual ++ "<lambda>"))) (hcm : c' ∉ m)
    (hm0 : A'.m0 = m) (hH0 : A'.H0 = H) (env : REnv (gcA A' X.prog X.w X.K X.mg base') m H ρ σ) (hbase : ∀ b o, s.heap.get? b = some o → H b = none → b ∉ frs X.stack → base'.get? b = some o)
    (hbind : ∀ us : List Value, us.length = ps.length → bindArgs (PySem.W.kla_fn "<lambda>" (X.env.qual ++ "<lambda>") params body scope (cloFrom X.env.cells scope.names []) pm (.ref c') ctv) ⟨us, []⟩ = pure (ps.zip us))
    (hbody : ∀ (Ar : Around) (outer : List Env) (s2 : Shared) (H2 : Hp) (E : XK), Room k (Ar.deeper (LamX.lamEnv X scope s2.heap.objs.size f c')) → (Ar.deeper (LamX.lamEnv X scope s2.heap.objs.size f c')).guards = some [] →
      PM A' (lcx X base' ps Ar outer s2 H2 E scope f c') (fun cls d _ H' => E cls d H') body fb) :
    FnG X.prog X.w X.K X.mg base' (k + 1) f (PySem.W.kla_fn "<lambda>" (X.env.qual ++ "<lambda>") params body scope (cloFrom X.env.cells scope.names []) pm (.ref c') ctv) ps (spM (gcA A' X.prog X.w X.K X.mg base') (lamM fb bs ps.length ρ) ps.length) := by
  refine ⟨fun vs H Q E h => h.1, fun Ar outer s2 H2 args us vs Q E hr hg e0 hbd r h => ?_⟩
  obtain ⟨hl, m2, st2, xs, rl, rx, kk⟩ := h
  have of2 := (e0.bs f _ hf).1
  have gr : Ext (gcA A' X.prog X.w X.K X.mg base') m H m2 H2 := by
    have z := rl.gr
    show Ext _ m H m2 H2
    rw [← hm0, ← hH0]
    exact z
  have hc2 : H2 c' = some (LamX.CodeO c' (X.env.qual ++ "<lambda>")) := gr.frame c' _ hc hcm LamX.codeO_ne
  obtain ⟨⟨oc, cvs, t, hoc, hdc, hvc⟩, _, _⟩ := e0.hok c' _ hc2
  have lu : us.length = ps.length := by rw [← Paired.length r]; exact hl
  refine PySem.W.kla_callFunE hr.depth of2 rfl L.co L.gen rfl ⟨c', oc, cvs, t, rfl, hoc, hdc, hvc⟩ (hbd _ _ _ _ ?_)
  have hnm : ∀ y ∈ ps.zip us, scope.names.lookup y.1 = some .local := fun ⟨n, v⟩ hy => L.pl n (List.of_mem_zip hy).1
  have lim : s2.heap.NoLimit := e0.mod.nolimit.keeps fun b o e => (e0.bs b o e).1
  refine wpAny_newFunctionEnv L.nc hnm (fun h₁ hns hsb => ⟨lim.fresh _ hsb, ?_⟩) L.kind
  show codeAny _ _ (.expr body (LamX.lamEnv X scope s2.heap.objs.size f c')) _ _
  have kp : ∀ b o, s2.heap.get? b = some o → h₁.get? b = some o := fun b o e => hsb.extBut b o (Nat.ne_of_lt (Heap.lt_size e)) (Heap.get?_push_of_some _ e)
  have J := lcx_start (E := E) (f := f) (c' := c') (tk := s2.toks + (ps.zip us).length) I hcab L hb e0 hr.hd hbase r lu hns kp
  have lx : xs.length = ps.length := by rw [rx.length]; exact hl
  have kk' : Run (gcA A' X.prog X.w X.K X.mg base') (fun cls d _ H' => E cls d H') [] m2 H2 (finE st2 (fb (xs.map some ++ capM bs ρ) st2)) (kV (gcA A' X.prog X.w X.K X.mg base') Q) := by
    have z := kk
    unfold lamM at z
    rw [if_pos lx] at z
    exact z
  have tb : tM (gc A' (lcx X base' ps Ar outer s2 H2 E scope f c')) (fun cls d _ H' => E cls d H') fb (vs.map some ++ capM bs σ) H2 Q :=
    ⟨m2, _, st2, rl, REnv.cap rx (env.mono gr), finE_of rl kk' fun _ _ _ z => z⟩
  refine PySem.W.kla_codeExpr (wpAny_mono ((hbody Ar outer s2 H2 E (hr.deeper _) hg).run [] _ _ H2 Q J tb) (fun v s' hq => ?_) fun e s' hq => hq)
  obtain ⟨w', H', J', rv, q⟩ := hq
  exact ⟨w', H', J'.os, J'.bare, J'.base, J'.hok, rv, q⟩
end
end CS
namespace CS
open PySem PySem.Spec PyProof.Rows L2
theorem rvs_ints {c : GC} {m : List Addr} {H : Hp} : ∀ ns : List Int, RVs c m H (ns.map .int) (ns.map V.int)
  | [] => .nil
  | n :: ns => .cons (.int n) (rvs_ints ns)
def noLists (K : PySem.W.Frag) : Bool := K.all fun p => match p.2.cls with | .type n => n != "list" | _ => true
theorem noLists_of {K : PySem.W.Frag} (h : noLists K = true) {a : Addr} {o : Obj} (e : K.lookup a = some o) : o.cls ≠ .type "list" := fun z => by
  have := List.all_eq_true.mp h (a, o) (lookup_mem e)
  rw [show (a, o).2.cls = .type "list" from z] at this
  simp at this
section
variable {l : PySem.W.OpenLaw} {q : Program} {loose : List Str} {XP : (Str → Option Value) → Heap → Prop} {YP : World → Heap → Prop} {d : DefRec} {K : Params → PySem.W.Frag} {x : Str} {k n : Nat} {sem : List MV → Sto → R MV}
theorem start_rel {c : GC} {H : Hp} {a : Addr} {ob : Obj} {ns : List Int} (h0 : c.m0 = []) (h1 : c.H0 = fun _ => none) (Ha : H a = some (.frz ob (.lst (ns.map V.int)))) (hT : ∀ q ∈ c.tb, H q.1 = some (.tbl #[])) : Rel c [a] [.frz (ns.map .int)] H := by
  refine ⟨rfl, by simp, fun i o' h => ?_, ?_, fun q hq => LamX.TabS.nil (hT q hq)⟩
  · cases i with
    | zero => cases h; exact ⟨a, rfl, ob, ns.map V.int, Ha, rvs_ints ns⟩
    | succ i => simp at h
  · rw [h0, h1]
    refine ⟨⟨[a], rfl⟩, fun b xs h => ?_, fun _ _ => .inr rfl, fun b o h => (by cases h), fun b h => absurd rfl h⟩
    rcases h with ⟨o, h, _⟩ | h
    · cases h
    · exact .inr h
abbrev tabOb : Obj := { cls := .none, data := .fields #[] }
def TabsAt (ts : List Addr) (mg : Str → Option Value) (base : Heap) : Prop := ∀ P ∈ ts, base.BuiltinsAt mg P ∧ mainGlobals ≠ P
theorem law_end (hn : l.most = some n) (hn2 : n ≤ sizeLine) (hdf : d.params.defaults = []) (hr : Room k callerA) (hY : ∀ (w : World) (h : Heap), YP w h → (K w.params).In h) (hNL : ∀ w : World, noLists (K w.params) = true) (ts : List Addr) (hTs : ∀ (w : World) (h : Heap), YP w h → ∀ P ∈ ts, h.get? P = some tabOb) (hTn : ∀ w : World, (ts.all fun P => ((K w.params).lookup P).isNone) = true)
    (F : ∀ (w : World) (mg : Str → Option Value) (fa : Addr) (h : Heap), (K w.params).In h → h.Ns mainGlobals mg → mg d.name = some (.ref fa) →
      ∃ (A : AD) (fd : FuncData), A.m0 = [] ∧ A.H0 = (fun _ => none) ∧ (∀ q ∈ A.tb, q.1 ∈ ts ∧ ∃ c, PySem.W.codeHdIn (K w.params) c q.1 = true) ∧ (∀ (s : Shared) (u : Value), BindsTo s fd ⟨[u], []⟩ [(x, u)]) ∧
        ∀ base : Heap, (K w.params).In base → base.Ns mainGlobals mg → TabsAt ts mg base → FnG l.prog w (K w.params) mg base k fa fd [x] (spM (gcA A l.prog w (K w.params) mg base) sem 1))
    (hlaw : ∀ ns : List Int, ns.length ≤ n → ∃ st, sem [.ref 0] [.frz (ns.map .int)] = ret (.bl true) st) :
    PySem.W.WalkO q loose XP YP l.row.toRowW d [] (fun f vs => PySem.call f vs) := by
  refine Att.attach_call hn hdf fun w s₀ s₁ mg mb fa o pm cd doc a vs ns G Y ho hd hcd hmg hobj hints hlen hg => ?_
  have KX := hY w _ Y
  have KN := hNL w
  have TX := hTs w _ Y
  have TN : ∀ P ∈ ts, (K w.params).lookup P = none := fun P hP => by
    have z := List.all_eq_true.mp (hTn w) P hP
    cases q : (K w.params).lookup P with
    | none => rfl
    | some o' => rw [q] at z; cases z
  obtain ⟨A, fd, hm0, hH0, hT, hb, hF⟩ := F w mg fa _ KX G.T.g hmg
  have rv := vals_ints hints
  let ob : Obj := { cls := .type "list", data := .seq vs.toArray }
  let isT : Addr → Bool := fun b => A.tb.any fun q => decide (q.1 = b)
  have hisT : ∀ {b : Addr}, isT b = true → b ∈ ts := fun {b} z => by
    obtain ⟨q, hq, e⟩ := List.any_eq_true.mp z
    rw [← of_decide_eq_true e]
    exact (hT q hq).1
  have hcode : ∀ {b : Addr}, isT b = true → isCodeTable s₁.heap b := fun {b} z => by
    obtain ⟨q, hq, e⟩ := List.any_eq_true.mp z
    obtain ⟨h1, c, h2⟩ := hT q hq
    rw [← of_decide_eq_true e]
    exact ((PySem.W.codeHd_of_K KX h2).tab (TX _ h1)).isCodeTable
  have aT : isT a = false := by
    cases z : isT a with
    | false => rfl
    | true =>
      have := TX a (hisT z)
      rw [hobj] at this
      cases this
  let H : Hp := fun b => if b = a then some (.frz ob (.lst (ns.map V.int))) else if isT b = true then some (.tbl #[]) else none
  have Ha : H a = some (.frz ob (.lst (ns.map V.int))) := if_pos rfl
  have Ht : ∀ {b : Addr}, isT b = true → H b = some (.tbl #[]) := fun {b} z => by
    have : b ≠ a := fun e => by rw [e, aT] at z; cases z
    show (if b = a then _ else _) = _
    rw [if_neg this, if_pos z]
  have Hn : ∀ {b : Addr}, b ≠ a → isT b = false → H b = none := fun {b} hb hz => by
    show (if b = a then _ else _) = _
    rw [if_neg hb, hz, if_neg Bool.false_ne_true]
  have hKa : (K w.params).lookup a = none := by
    cases e : (K w.params).lookup a with
    | none => rfl
    | some o' =>
      have z := KX a o' e
      rw [hobj] at z
      cases z
      exact absurd rfl (noLists_of KN e)
  -- what is neither the script nor a table
  have off : ∀ {b : Addr} {o' : Obj}, s₁.heap.get? b = some o' → o'.cls ≠ .none → b ≠ a → H b = none := fun {b o'} e hc hb => Hn hb (by
    cases z : isT b with
    | false => rfl
    | true =>
      have := TX b (hisT z)
      rw [e] at this
      cases this
      exact absurd rfl hc)
  have offD : ∀ {b : Addr} {o' : Obj} {es : Array DictEntry} {ep : Nat}, s₁.heap.get? b = some o' → o'.data = .dict es ep → H b = none := fun {b o' es ep} e dd => by
    refine Hn (fun z => ?_) ?_
    · rw [z, hobj] at e
      cases e
      cases dd
    · cases z : isT b with
      | false => rfl
      | true =>
        have := TX b (hisT z)
        rw [e] at this
        cases this
        cases dd
  have nsB : ∀ {b : Addr} {m : Str → Option Value}, s₁.heap.Ns b m → (hidT s₁.heap H).Ns b m := fun {b m} ⟨o', es, ep, e, dd, r⟩ => ⟨o', es, ep, hidT_get e (offD e dd), dd, r⟩
  have hKb : (K w.params).In (hidT s₁.heap H) := fun b o' e => by
    refine hidT_get (KX b o' e) (Hn (fun z => by rw [z, hKa] at e; cases e) ?_)
    cases z : isT b with
    | false => rfl
    | true =>
      have := TN b (hisT z)
      rw [e] at this
      cases this
  have hM : Mod (K w.params) mg (hidT s₁.heap H) := by
    refine ⟨hKb, nsB G.T.g, ⟨mb, nsB G.T.b, G.T.builtins⟩, ?_⟩
    obtain ⟨mc, h1, h2⟩ := G.T.nolimit
    exact ⟨mc, nsB h1, h2⟩
  have hTA : TabsAt ts mg (hidT s₁.heap H) := fun P hP => by
    have eP := TX P hP
    obtain ⟨bm, om, b1, b2, b3, b4, b5, b6⟩ := G.T.bmain
    refine ⟨⟨bm, om, b1, b2, fun q => ?_, fun q => ?_, hidT_get b3 (off b3 (by rw [b4]; intro z; cases z) fun q => ?_), b4, b5, b6⟩, fun z => ?_⟩
    · obtain ⟨o', es, ep, e, dd, _⟩ := G.T.g
      rw [q, e] at b3
      cases b3
      rw [dd] at b6
      cases b6
    · rw [q, eP] at b3
      cases b3
      cases b6
    · rw [q, hobj] at b3
      cases b3
      cases b6
    · obtain ⟨o', es, ep, e, dd, _⟩ := G.T.g
      rw [z, eP] at e
      cases e
      cases dd
  have hok : HOk l.prog w H s₁.heap := fun b u z => by
    by_cases hb : b = a
    · subst hb
      rw [Ha] at z
      cases z
      exact ⟨hobj, by rw [List.length_map]; exact Nat.le_trans hlen hn2, vs, _, rv, hobj⟩
    · cases zt : isT b with
      | false => rw [Hn hb zt] at z; cases z
      | true =>
        rw [Ht zt] at z
        cases z
        exact TX b (hisT zt)
  have e0 : Env0 l.prog w (K w.params) mg (hidT s₁.heap H) callerA [] s₁ H := ⟨rfl, hM, fun b o' e => of_hidT e, Nat.le_of_eq (hidT_size _ _), trivial, fun b hb => absurd (show b ∈ ([] : List Addr) from hb) (by simp), hok, .of_eq hg⟩
  obtain ⟨st1, hs⟩ := hlaw ns hlen
  have rel : Rel (gcA A l.prog w (K w.params) mg (hidT s₁.heap H)) [a] [.frz (ns.map .int)] H := start_rel hm0 hH0 Ha fun q hq => Ht (List.any_eq_true.mpr ⟨q, hq, decide_eq_true rfl⟩)
  refine codeAny_mono ((hF _ hKb (nsB G.T.g) hTA).run callerA [] s₁ H ⟨[.ref a], []⟩ [.ref a] [.ref a] (fun v _ => v = .bl true) (fun _ _ _ => False) hr rfl e0 (hb s₁ (.ref a)) (.cons rfl .nil) ⟨rfl, [a], _, [.ref 0], rel, .cons (.ref rfl) .nil, ?_⟩) fun r s' h => ?_
  · rw [hs]
    intro m' H' e r u hu
    cases hu
    rfl
  · match r, h with
    | .error e, h =>
      obtain ⟨_, _, _, _, _, _, _, _, _, _, _, _, z⟩ := h
      exact z.elim
    | .ok .next, h => exact h.elim
    | .ok .brk, h => exact h.elim
    | .ok .cont, h => exact h.elim
    | .ok (.ret u), h =>
      obtain ⟨v, H', os, bare, un, hok', r', q⟩ := h
      have q' : v = .bl true := q
      subst q'
      obtain rfl : u = Value.bool true := r'
      have nil : ∀ b : Addr, b ∉ frs [] := fun b z => absurd (show b ∈ ([] : List Addr) from z) (by simp)
      have key : ∀ b o, isT b = false → s₁.heap.get? b = some o → s'.heap.get? b = some o := fun b o zt e => by
        by_cases hb : b = a
        · subst hb
          rw [hobj] at e
          cases e
          exact (hok' b _ (un.frzs b _ _ Ha)).1
        · exact un.keep b o e (Hn hb zt) (nil b) (by simp)
      have grown : ∀ b, isT b = true → ∃ more : Array Value, s'.heap.get? b = some { cls := .none, data := .fields more } := fun b zt => by
        obtain ⟨more, z⟩ := un.tbls b #[] (Ht zt)
        exact ⟨_, hok' b _ z⟩
      refine ⟨rfl, ⟨fun b o e => ?_, fun b o e => ?_⟩, os, bare⟩
      · cases zt : isT b with
        | false => exact .inl (key b o zt e)
        | true =>
          obtain ⟨more, hm⟩ := grown b zt
          have eT := TX b (hisT zt)
          rw [e] at eT
          cases eT
          exact .inr (.inl ⟨hcode zt, rfl, #[], more, rfl, by rw [Array.empty_append]; exact hm⟩)
      · cases zt : isT b with
        | false => exact ⟨o, key b o zt e⟩
        | true =>
          obtain ⟨more, hm⟩ := grown b zt
          exact ⟨_, hm⟩
end
end CS
namespace CS
open PySem PySem.Spec PyProof.Rows L2
section
variable {A : AD} {X : Cx} {W : WX} {tg elt iter : Expr} {ifs : List Expr} {scope : Scope} {own : List (Str × Nat)} {pos : Pos} {fi : DI} {t : CT} {p : DB} {f : DE}
theorem pms_setLc {i : Nat} {y : Str} {py spos : Pos} (hc : X.calm = true) (hN : X.N.Nodup) (hy : X.N[i]? = some y) (hyl : X.env.scope.names.lookup y = some .local)
    (hsw : swapsWith (.ListComp elt [⟨tg, iter, ifs, 0⟩] scope pos) (some (.Name y py)) spos.line X.env = pure true) (hi : PMI A X W tg iter fi) (ok : BlkOk X.N X.env.scope scope own)
    (hg : ∀ (s : Shared) (H : Hp) (C : Addr) (cl : List (Str × Addr)) (fp : List Addr), PG (X.blk s H scope (compEnvC scope cl C X.env) fp) tg (ctG X.K t)) (ht : ∀ (s : Shared) (H : Hp) (C : Addr) (cl : List (Str × Addr)) (fp : List Addr), PTs (X.blk s H scope (compEnvC scope cl C X.env) fp) ifs (tMB (gc A X) W0 p))
    (he : ∀ (s : Shared) (H : Hp) (C : Addr) (cl : List (Str × Addr)) (fp : List Addr), PE (X.blk s H scope (compEnvC scope cl C X.env) fp) elt (tM (gc A X) W0 f)) (hs : ∀ x, foldedSetIterable iter X.env x = pure x) (hsl : ∀ j ∈ t.slots, j ∈ own.map (·.2)) :
    PMS A X W (.Assign [.Name y py] (.ListComp elt [⟨tg, iter, ifs, 0⟩] scope pos) spos) (sLc i (eLc fi t p f (own.map (·.2)))) := by
  refine (ps_setLc hc hN hy hyl hsw hi ok hg ht he hs).imp fun D σ H ⟨m, ρ, st, r, v, k⟩ => ?_
  refine lc_imp (D0 := H) (ρ := ρ) r v ?_ hsl
  unfold sLc sb at k
  revert k
  generalize eLc fi t p f (own.map (·.2)) ρ st = rr
  intro k
  match rr, k with
  | none, k => exact k
  | some (.error x, st1), k => exact fun m1 H1 cls d e1 r1 x1 => k m1 H1 σ cls d e1 r1 (v.mono e1) x1
  | some (.ok xs, st1), k =>
    intro m1 H1 e1 r1 D' vs h0 hD hm hv
    obtain ⟨e2, r2⟩ := adopt (xs := xs) r.gr.live e1 r1 h0 hD hm (by simpa using hv)
    exact k _ _ _ e2 r2 ((v.mono e2).set (.ref (by rw [← r1.len]; simp)))
theorem pct_one {i : Nat} {x : Str} (hN : X.N.Nodup) (hi : X.N[i]? = some x) (hx : Loc X.env.scope x) (hf : X.fn x = true ∨ X.env.scope.names.lookup x = some .local) : PG X (.Name x pos) (ctG X.K (.one i)) := pg_name hN hi hx hf
theorem pcn_nil : PGs X [] (namesG []) := pgs_nil
theorem pcn_cons {i : Nat} {is : List Nat} {x : Str} {es : List Expr} (hN : X.N.Nodup) (hi : X.N[i]? = some x) (hx : Loc X.env.scope x) (hf : X.fn x = true ∨ X.env.scope.names.lookup x = some .local) (r : PGs X es (namesG is)) (hs : (assignEach (.Name x pos :: es) X.env).map (·.2) = assign (.Name x pos) X.env :: (assignEach es X.env).map (·.2)) :
    PGs X (.Name x pos :: es) (namesG (i :: is)) := pgs_cons (pg_name hN hi hx hf) r hs
theorem pct_tup {is : List Nat} {es : List Expr} {k : Nat} (hc : X.calm = true) (h : PGs X es (namesG is)) (hn : (assignEach es X.env).length = is.length) (hst : (assignEach es X.env).findIdx? (·.1) = none) : PG X (.Tuple es k pos) (ctG X.K (.tup is)) := pg_tup hc h hn hst
theorem pm_glob {x : Str} {v : MV} {u : V} (hg : Gl X x) (h : ∃ w, X.mg x = some w ∧ RelV u w) (q : ∀ m H, RV (gc A X) m H v u) (hd : (x == ("__debug__" : Str)) = false) : PM A X W (.Name x pos) (eC v) := by
  obtain ⟨w, h1, h2⟩ := h
  exact pm_const (pe_glob hg h1 h2 hd) q
theorem pm_cls {x : Str} {i : Nat} {C : Addr} (hg : Gl X x) (h : X.mg x = some (.ref C)) (hC : A.ca i = some C) (hd : (x == ("__debug__" : Str)) = false) : PM A X W (.Name x pos) (eC (.cl i)) := pm_const (pe_glob (v := .ref C) hg h rfl hd) fun m H => .cl hC
theorem pm_fnc {x : Str} {i : Nat} {C : Addr} (hg : Gl X x) (h : X.mg x = some (.ref C)) (hC : A.fa i = some C) (hd : (x == ("__debug__" : Str)) = false) : PM A X W (.Name x pos) (eC (.fn i)) := pm_const (pe_glob (v := .ref C) hg h rfl hd) fun m H => .fn hC
theorem pm_typ {x : Str} {n : String} (hg : Gl X x) (hm : X.mg x = none) (hv : bootBuiltins x = some (.type n)) (hn : x ≠ "__name__") (hd : (x == ("__debug__" : Str)) = false) : PM A X W (.Name x pos) (eC (.ty n)) :=
  pm_const (pe_bltn (v := .ty n) hg hm hv rfl hn hd) fun m H => .ty n
theorem pm_int {i : Int} {j : Nat} : PM A X W (.Constant (.int i) j pos) (eC (.int i)) := pm_const pe_int fun m H => .int i
theorem pm_bl {i : Bool} {j : Nat} : PM A X W (.Constant (.bool i) j pos) (eC (.bl i)) := pm_const pe_bl fun m H => .bl i
theorem pm_non {j : Nat} : PM A X W (.Constant .none j pos) (eC .non) := pm_const pe_non fun m H => .non
theorem pm_str {i : Str} {j : Nat} : PM A X W (.Constant (.str i) j pos) (eC (.str i)) := pm_const pe_str fun m H => .str i
end
structure DefT where
  name : Str
  qual : Str
  st : Stmt
  ps : List Str
  N : List Str
structure Pl where
  fa : Nat → Addr
  fd : Nat → FuncData
  cs : List (Addr × Addr)
structure Gd (A : AD) (X : Cx) (W : WX) (D : List DefT) (p : Pl) (S : Nat → List MV → Sto → R MV) (ar : Nat → Nat) (l : Nat) : Prop where
  fns : ∀ j d, D[j]? = some d → FnG X.prog X.w X.K X.mg X.base l (p.fa j) (p.fd j) d.ps (spM (gc A X) (S j) d.ps.length)
  bnd : ∀ j d, D[j]? = some d → Binds X.K (p.fd j) d.ps []
  val : ∀ j f xs st, A.fa j = some f → S j xs st ≠ none → CloG X.prog X.w X.K X.mg X.base A l f (ar j) (S j)
  fat : ∀ j f, A.fa j = some f → PySem.W.FnAt f X.base
  fnv : ∀ j d, D[j]? = some d → A.fa j = some (p.fa j)
  room : Room (l + 1) X.A
  gd : X.A.guards = some []
  tk : L2N.Takes X W
  calm : X.calm = true
  un : X.A.units + 64 < cLine
structure SV where
  S : Nat → Fn
  B : Nat → Fn
  X : Nat → Fn → Nat → Fn
  ar : Nat → Nat
  n : Nat
  ok : Bool
structure SubW (A : AD) (base : Heap) (A' : AD) (base' : Heap) (n : Nat) (f : Addr) : Prop where
  base : ∀ b o, base.get? b = some o → base'.get? b = some o
  ca : A'.ca = A.ca
  tb : A'.tb = A.tb
  fa : ∀ i, A'.fa i = if i = n then some f else A.fa i
  fat : PySem.W.FnAt f base'
structure GdL (A : AD) (X : Cx) (W : WX) (D : List DefT) (p : Pl) (v : SV) (l : Nat) : Prop where
  gd : Gd A X W D p v.S v.ar l
  hn : ∀ i a, A.fa i = some a → i < v.n
  low : v.ok = true → ∃ lb, lb + 12 ≤ l + 1 ∧ ∀ (A' : AD) (base' : Heap) (f : Addr), SubW A X.base A' base' v.n f → (∀ j d, D[j]? = some d → FnG X.prog X.w X.K X.mg base' lb (p.fa j) (p.fd j) d.ps (spM (gcA A' X.prog X.w X.K X.mg base') (v.B j) d.ps.length)) ∧
    (∀ j f xs st, A'.fa j = some f → v.B j xs st ≠ none → CloG X.prog X.w X.K X.mg base' A' lb f (v.ar j) (v.B j)) ∧
    ∀ (ar : Nat) (g : Fn), CloG X.prog X.w X.K X.mg base' A' (lb + 4) f ar g → ∀ j d, D[j]? = some d → FnG X.prog X.w X.K X.mg base' l (p.fa j) (p.fd j) d.ps (spM (gcA A' X.prog X.w X.K X.mg base') (v.X ar g j) d.ps.length)
  tab : ∀ q ∈ p.cs, LamX.TabB X.base X.mg q.1 q.2
section
variable {A : AD} {X : Cx} {W : WX} {D : List DefT} {p : Pl} {S : Nat → List MV → Sto → R MV} {ar : Nat → Nat} {l : Nat}
theorem Gd.cv (G : Gd A X W D p S ar l) (j : Nat) (d : DefT) (h : D[j]? = some d) : CvOk A X W (.ref (p.fa j)) d.ps.length [] (fun xs _ st => S j xs st) :=
  cv_pos (G.fns j d h) (G.room.mono (Nat.le_succ l)) G.gd G.tk (G.bnd j d h)
theorem Gd.cvb (G : Gd A X W D p S ar l) (j : Nat) (d : DefT) (h : D[j]? = some d) : CvB A X (.ref (p.fa j)) d.ps.length (S j) :=
  cvb_pos (G.fns j d h) G.room G.gd (G.bnd j d h)
theorem takesB {X : Cx} : L2N.Takes X W0 := fun _ _ ⟨_, _, _, _, _, _, _, _, _, _, _, _, _, _, _, _, w⟩ => w.elim
theorem Gd.blk (G : Gd A X W D p S ar l) (s : Shared) (H : Hp) (scope : Scope) (cenv : Env) (fp : List Addr) : Gd A (X.blk s H scope cenv fp) W0 D p S ar l :=
  ⟨G.fns, G.bnd, G.val, G.fat, G.fnv, G.room, G.gd, takesB, G.calm, G.un⟩
end
theorem FnG.mono {P : Program} {w : World} {K : PySem.W.Frag} {mg : Str → Option Value} {base : Heap} {j k : Nat} {f : Addr} {fd : FuncData} {ps : List Str} {sp : Sp} (F : FnG P w K mg base j f fd ps sp) (h : j ≤ k) : FnG P w K mg base k f fd ps sp :=
  ⟨F.len, fun A outer s H args us vs Q E hr => F.run A outer s H args us vs Q E (hr.mono h)⟩
theorem FnG.no {P : Program} {w : World} {K : PySem.W.Frag} {mg : Str → Option Value} {base : Heap} {k n : Nat} {f : Addr} {fd : FuncData} {ps : List Str} {c : GC} (h : n = ps.length) : FnG P w K mg base k f fd ps (spM c (fun _ _ => none) n) :=
  ⟨fun vs H Q E q => q.1.trans h, fun A outer s H args us vs Q E _ _ _ _ _ ⟨_, m, st, xs, _, _, z⟩ => (show False from z).elim⟩
theorem CloG.mono {P : Program} {w : World} {K : PySem.W.Frag} {mg : Str → Option Value} {base : Heap} {A : AD} {j k : Nat} {f : Addr} {ar : Nat} {g : Fn} (c : CloG P w K mg base A j f ar g) (h : j ≤ k) : CloG P w K mg base A k f ar g := by
  obtain ⟨fd, ps, h1, h2, h3, h4⟩ := c.ex
  exact ⟨fd, ps, h1, h2.mono h, h3, h4⟩
theorem CloG.no {P : Program} {w : World} {K : PySem.W.Frag} {mg : Str → Option Value} {base : Heap} {A : AD} {j k : Nat} {f : Addr} {ar : Nat} {g : Fn} (c : CloG P w K mg base A j f ar g) : CloG P w K mg base A k f ar (fun _ _ => none) := by
  obtain ⟨fd, ps, h1, h2, h3, h4⟩ := c.ex
  exact ⟨fd, ps, h1, FnG.no rfl, h3, h4⟩
end CS
namespace CS
open PySem PySem.Spec PyProof.Rows L2
structure FnT (K : PySem.W.Frag) (mg : Str → Option Value) (x : Str) (f : Addr) : Prop where
  mg : mg x = some (.ref f)
  kp : PySem.W.keepIn K (.ref f) = true
abbrev adOf (ca : Nat → Option Addr) : AD := ⟨fun _ => none, ca, [], [], fun _ => none⟩
structure ClT (A : AD) (K : PySem.W.Frag) (mg : Str → Option Value) (x : Str) (i : Nat) (C : Addr) : Prop where
  mg : mg x = some (.ref C)
  kp : PySem.W.keepIn K (.ref C) = true
  ca : A.ca i = some C
abbrev Tl := List (Nat × Nat)
abbrev tbOf (t : Tl) (S : Nat → List MV → Sto → R MV) : Tb := t.map fun e => (e.1, S e.2)
theorem tbOf_lookup {t : Tl} {S : Nat → List MV → Sto → R MV} {k : Nat} {g : List MV → Sto → R MV} (h : (tbOf t S).lookup k = some g) : ∃ j, (k, j) ∈ t ∧ g = S j := by
  induction t with
  | nil => cases h
  | cons e t ih =>
    unfold tbOf at h
    rw [List.map_cons, List.lookup_cons] at h
    split at h
    · rename_i q
      cases h
      rw [eq_of_beq q]
      exact ⟨e.2, List.mem_cons_self, rfl⟩
    · obtain ⟨j, h1, h2⟩ := ih h
      exact ⟨j, List.mem_cons_of_mem _ h1, h2⟩
def MtT (A : AD) (K : PySem.W.Frag) (p : Pl) (m : Str) (t : Tl) : Prop := ∀ e ∈ t, ∀ C, A.ca e.1 = some C → Cls K C ∧ Meth K C m (p.fa e.2)
def SpT (A : AD) (K : PySem.W.Frag) (p : Pl) (m : Str) (t : Tl) : Prop := ∀ e ∈ t, ∀ C, A.ca e.1 = some C → PySem.W.findIn K (.ref C) m = some (some (.ref (p.fa e.2))) ∧ PySem.W.isFn K (.ref (p.fa e.2)) = true
def NfT (A : AD) (K : PySem.W.Frag) (t : Tl) (os : List Nat) : Prop := InsOk A K os ∧ ∀ e ∈ t, ∀ C, A.ca e.1 = some C → (∀ n ∈ bNames, PySem.W.notFirst K C (.type n) = true) ∧ ∀ k2 ∈ os, ∀ D, A.ca k2 = some D → PySem.W.notFirst K C (.ref D) = true
def NeT (A : AD) (K : PySem.W.Frag) (t : Tl) : Prop := ∀ e ∈ t, ∀ C, A.ca e.1 = some C → PySem.W.findIn K (.ref C) "__ne__" = some (some (.builtin "object.__ne__")) ∧ PySem.W.subIn K (.ref C) (.type "object") = some true
def NbT (A : AD) (K : PySem.W.Frag) (t : Tl) : Prop := ∀ e ∈ t, ∀ C, A.ca e.1 = some C → PySem.W.findIn K (.ref C) "__bool__" = some none
def lensOk (D : List DefT) (t : Tl) (n : Nat) : Bool := t.all fun e => match D[e.2]? with | some d => d.ps.length == n | none => false
section
variable {A : AD} {X : Cx} {W : WX} {D : List DefT} {p : Pl} {S : Nat → List MV → Sto → R MV} {ar : Nat → Nat} {l : Nat}
theorem lensOk_of {t : Tl} {n : Nat} {e : Nat × Nat} (h : lensOk D t n = true) (he : e ∈ t) : ∃ d, D[e.2]? = some d ∧ d.ps.length = n := by
  have := List.all_eq_true.mp h e he
  split at this
  · rename_i d q
    exact ⟨d, q, eq_of_beq this⟩
  · cases this
theorem Gd.mts (G : Gd A X W D p S ar l) {m : Str} {t : Tl} {n : Nat} (M : MtT A X.K p m t) (h : lensOk D t n = true) : MtsOk A X W m n (tbOf t S) := fun k g hg C hC => by
  obtain ⟨j, h1, rfl⟩ := tbOf_lookup hg
  obtain ⟨d, h2, h3⟩ := lensOk_of h h1
  obtain ⟨c1, c2⟩ := M _ h1 C hC
  exact ⟨p.fa j, c1, c2, by rw [← h3]; exact G.cv j d h2⟩
theorem Gd.sp (G : Gd A X W D p S ar l) {m : Str} {t : Tl} {n : Nat} (M : SpT A X.K p m t) (h : lensOk D t n = true) : SpOk A X m n (tbOf t S) := fun k g hg C hC => by
  obtain ⟨j, h1, rfl⟩ := tbOf_lookup hg
  obtain ⟨d, h2, h3⟩ := lensOk_of h h1
  obtain ⟨c1, c2⟩ := M _ h1 C hC
  exact ⟨p.fa j, c1, c2, by rw [← h3]; exact G.cvb j d h2⟩
theorem NfT.ok {K : PySem.W.Frag} {t : Tl} {os : List Nat} (h : NfT A K t os) : NfOk A K (tbOf t S) os := ⟨h.1, fun k g hg C hC => by
  obtain ⟨j, h1, _⟩ := tbOf_lookup hg
  exact h.2 _ h1 C hC⟩
theorem NeT.ok {K : PySem.W.Frag} {t : Tl} (h : NeT A K t) : NeOk A K (tbOf t S) := fun k g hg C hC => by
  obtain ⟨j, h1, _⟩ := tbOf_lookup hg
  exact h _ h1 C hC
theorem NbT.ok {K : PySem.W.Frag} {t : Tl} (h : NbT A K t) : NbOk A K (tbOf t S) := fun k g hg C hC => by
  obtain ⟨j, h1, _⟩ := tbOf_lookup hg
  exact h _ h1 C hC
theorem Gd.cvk (G : Gd A X W D p S ar l) (j : Nat) (d : DefT) (h : D[j]? = some d) {sh : Shape} (hs : ShapeOk X.K (p.fd j) d.ps [] sh) : CvOk A X W (.ref (p.fa j)) sh.n sh.ks (fun xs zs st => S j (arrG .non sh xs zs []) st) :=
  cv_fn (dm := []) (G.fns j d h) (G.room.mono (Nat.le_succ l)) G.gd G.tk hs ⟨[], .nil, fun _ _ => .nil⟩
theorem Gd.mkk (G : Gd A X W D p S ar l) (j : Nat) (d : DefT) (h : D[j]? = some d) {C : Addr} {kc n : Nat} {ks : List Str} {arr : List Src} (M : Mk X.K C (p.fa j)) (hca : A.ca kc = some C) (hs : ShapeOk X.K (p.fd j) d.ps [] ⟨n + 1, ks, arr⟩) :
    CvOk A X W (.ref C) n ks (fun xs zs st => mkM (fun ys st => S j (arrG .non ⟨n + 1, ks, arr⟩ ys zs []) st) kc xs st) :=
  cv_mk (dm := []) M hca (G.fns j d h) G.room G.gd G.tk hs ⟨[], .nil, fun _ _ => .nil⟩
def posArr (n : Nat) : List Src := (List.range n).map .pos
theorem arr_pos {α : Type} {d : α} {n : Nat} {ks : List Str} {xs zs ds : List α} (h : xs.length = n) : arrG d ⟨n, ks, posArr n⟩ xs zs ds = xs := by
  subst h
  unfold arrG posArr
  rw [List.map_map]
  refine List.ext_getElem (by simp) fun i h1 h2 => ?_
  simp [srcG, List.getD, h2]
theorem Gd.mkp (G : Gd A X W D p S ar l) (j : Nat) (d : DefT) (h : D[j]? = some d) {C : Addr} {kc n : Nat} (hn : d.ps.length = n + 1) (M : Mk X.K C (p.fa j)) (hca : A.ca kc = some C) :
    CvOk A X W (.ref C) n [] (fun xs _ st => mkM (S j) kc xs st) := by
  have sk : ShapeOk X.K (p.fd j) d.ps [] ⟨n + 1, [], posArr (n + 1)⟩ := by
    refine ⟨by simp [posArr, hn], fun s us ws hK h1 h2 => ?_⟩
    cases ws with
    | cons a b => cases h2
    | nil =>
      rw [arr_pos h1]
      have := G.bnd j d h s us hK (by rw [List.append_nil, hn]; exact h1)
      rwa [List.append_nil] at this
  have c := G.mkk j d h M hca sk
  intro pins σ H s Q m st xs zs vs ws us ts I r h1 q1 h2 q2 l1 l2 k
  refine c pins σ H s Q m st xs zs vs ws us ts I r h1 q1 h2 q2 l1 l2 ?_
  have e : mkM (fun ys st => S j (arrG .non ⟨n + 1, [], posArr (n + 1)⟩ ys zs []) st) kc xs st = mkM (S j) kc xs st := by
    unfold mkM
    dsimp only
    rw [arr_pos (by rw [List.length_cons, l1])]
  dsimp only
  rw [e]
  exact k
end
structure Clo where
  lv : Nat
  ar : Nat
  g : Fn
abbrev CE := List Clo
def cloAt (k : Nat) (C : CE) (i : Nat) : Fn := if i + 1 = C.length then (match C[i]? with
  | some c => if c.lv ≤ k then c.g else fun _ _ => none
  | none => fun _ _ => none) else fun _ _ => none
def dummyC : Clo := ⟨0, 0, fun _ _ => none⟩
def arOf (D : List DefT) (C : CE) (j : Nat) : Nat := if 1000 ≤ j then (match C[j - 1000]? with | some c => c.ar | none => 0) else match D[j]? with | some d => d.ps.length | none => 0
abbrev Dn := Nat → SV → DS
def stepR (D : List DefT) (den : Dn) (k : Nat) (S : CE → Nat → Fn) (B : Option (CE → Nat → Fn)) (C : CE) (j : Nat) : Fn :=
  if 1000 ≤ j then cloAt k C (j - 1000) else match D[j]? with
  | some d => defM d.N.length (den j { S := S C, B := match B with | some b => b (C ++ [dummyC]) | none => fun _ _ _ => none, X := fun ar g => match B with | some _ => S (C ++ [⟨k - 3, ar, g⟩]) | none => fun _ _ _ => none, ar := arOf D C, n := 1000 + C.length, ok := B.isSome })
  | none => fun _ _ => none
def semR (D : List DefT) (den : Dn) : Nat → CE → Nat → Fn
  | 0 => fun C j => if 1000 ≤ j then cloAt 0 C (j - 1000) else fun _ _ => none
  | 1 => stepR D den 1 (semR D den 0) none
  | 2 => stepR D den 2 (semR D den 1) none
  | 3 => stepR D den 3 (semR D den 2) none
  | k + 4 => stepR D den (k + 4) (semR D den (k + 3)) (some (semR D den k))
@[irreducible] def semL (D : List DefT) (den : Dn) (k : Nat) (C : CE) (j : Nat) : Fn := semR D den k C j
theorem semL_is {D : List DefT} {den : Dn} {k : Nat} : semL D den k = semR D den k := by
  funext C j
  unfold semL
  rfl
def svAt (D : List DefT) (den : Dn) (k : Nat) (C : CE) : SV where
  S := semL D den k C
  B := if 3 ≤ k then semL D den (k - 3) (C ++ [dummyC]) else fun _ _ _ => none
  X := fun ar g => if 3 ≤ k then semL D den k (C ++ [⟨k - 2, ar, g⟩]) else fun _ _ _ => none
  ar := arOf D C
  n := 1000 + C.length
  ok := decide (3 ≤ k)
theorem sem_at {D : List DefT} {den : Dn} {k j : Nat} {C : CE} {d : DefT} (h : D[j]? = some d) (hj : j < 1000) : semL D den (k + 1) C j = defM d.N.length (den j (svAt D den k C)) := by
  have hj' : ¬ 1000 ≤ j := by omega
  unfold svAt
  rw [semL_is, semL_is]
  match k with
  | 0 => show stepR D den 1 (semR D den 0) none C j = _; unfold stepR; rw [if_neg hj', h]; rfl
  | 1 => show stepR D den 2 (semR D den 1) none C j = _; unfold stepR; rw [if_neg hj', h]; rfl
  | 2 => show stepR D den 3 (semR D den 2) none C j = _; unfold stepR; rw [if_neg hj', h]; rfl
  | k + 3 =>
    show stepR D den (k + 4) (semR D den (k + 3)) (some (semR D den k)) C j = _
    unfold stepR
    rw [if_neg hj', h]
    simp only [show 3 ≤ k + 3 by omega, if_true, semL_is, decide_true]
    rfl
theorem sem_zero {D : List DefT} {den : Dn} {C : CE} {j : Nat} (hj : j < 1000) : semL D den 0 C j = fun _ _ => none := by
  rw [semL_is]
  show (if 1000 ≤ j then cloAt 0 C (j - 1000) else fun _ _ => none) = _
  rw [if_neg (by omega)]
theorem sem_clo {D : List DefT} {den : Dn} {k i : Nat} {C : CE} : semL D den k C (1000 + i) = cloAt k C i := by
  rw [semL_is]
  have e : 1000 + i - 1000 = i := by omega
  match k with
  | 0 => show (if 1000 ≤ 1000 + i then cloAt 0 C (1000 + i - 1000) else fun _ _ => none) = _; rw [if_pos (by omega), e]
  | 1 => show stepR D den 1 _ none C (1000 + i) = _; unfold stepR; rw [if_pos (by omega), e]
  | 2 => show stepR D den 2 _ none C (1000 + i) = _; unfold stepR; rw [if_pos (by omega), e]
  | 3 => show stepR D den 3 _ none C (1000 + i) = _; unfold stepR; rw [if_pos (by omega), e]
  | k + 4 => show stepR D den (k + 4) _ _ C (1000 + i) = _; unfold stepR; rw [if_pos (by omega), e]
abbrev cxi (d : DefT) (P : Program) (w : World) (K : PySem.W.Frag) (mg : Str → Option Value) (base : Heap) (f : Addr) (cdv : Value) (Ar : Around) (outer : List Env) (s : Shared) (H : Hp) (E : XK) : Cx :=
  cxOf (L2N.CX P w) P w K mg base d.N d.qual (defScope d.st) f cdv Ar outer s H E
structure DefOk (K : PySem.W.Frag) (d : DefT) (f : Addr) (fd : FuncData) : Prop where
  fn : FunD K d.name d.qual (defArgs d.st) (defBody d.st) (defScope d.st) [] [] f fd
  sc : FnScope d.N d.ps (defScope d.st)
  bd : Binds K fd d.ps []
structure Wd (P : Program) (w : World) (K : PySem.W.Frag) (mg : Str → Option Value) (D : List DefT) (p : Pl) (ca : Nat → Option Addr) (tb : List (Addr × Str)) (C : CE) (A : AD) (base : Heap) : Prop where
  kin : K.In base
  ns : base.Ns mainGlobals mg
  tab : ∀ q ∈ p.cs, LamX.TabB base mg q.1 q.2
  ca : A.ca = ca
  tb : A.tb = tb
  fa : ∀ j, j < 1000 → A.fa j = if j < D.length then some (p.fa j) else none
  hn : ∀ i a, A.fa i = some a → i < 1000 + C.length
  fat : ∀ j f, A.fa j = some f → PySem.W.FnAt f base
  clo : ∀ i c f, i + 1 = C.length → C[i]? = some c → A.fa (1000 + i) = some f → (∃ xs st, c.g xs st ≠ none) → CloG P w K mg base A (4 * c.lv) f c.ar c.g
theorem tabB_keep {base base' : Heap} {mg : Str → Option Value} {c P : Addr} (k : ∀ b o, base.get? b = some o → base'.get? b = some o) (h : LamX.TabB base mg c P) : LamX.TabB base' mg c P := ⟨h.code.keeps k, h.bm.keeps k, h.gP⟩
theorem fns_all {P : Program} {w : World} {K : PySem.W.Frag} {mg : Str → Option Value} {D : List DefT} {p : Pl} {ca : Nat → Option Addr} {tb : List (Addr × Str)} {den : Dn} (hL : D.length ≤ 1000) (hD : ∀ j d, D[j]? = some d → DefOk K d (p.fa j) (p.fd j))
    (hB : ∀ j d, D[j]? = some d → ∀ (A : AD) (base : Heap) (v : SV) (l : Nat) (cdv : Value) (Ar : Around) (outer : List Env) (s : Shared) (H : Hp) (E : XK), A.ca = ca → A.tb = tb → (∀ j, j < D.length → A.fa j = some (p.fa j)) → (p.fd j).code = cdv → GdL A (cxi d P w K mg base (p.fa j) cdv Ar outer s H E) (fun cls d _ H' => E cls d H') D p v l →
      PMSs A (cxi d P w K mg base (p.fa j) cdv Ar outer s H E) (fun cls d _ H' => E cls d H') (defBody d.st) (den j v)) :
    ∀ k (A : AD) (base : Heap) (C : CE), Wd P w K mg D p ca tb C A base → ∀ j d, D[j]? = some d → FnG P w K mg base (4 * k) (p.fa j) (p.fd j) d.ps (spM (gcA A P w K mg base) (semL D den k C j) d.ps.length) := by
  have lt : ∀ {j : Nat} {d : DefT}, D[j]? = some d → j < D.length := fun h => (List.getElem?_eq_some_iff.mp h).1
  intro k
  induction k using Nat.strongRecOn with
  | _ k ih =>
  intro A base C hW j d h
  have hj := lt h
  match k, ih with
  | 0, ih =>
    rw [sem_zero (by omega)]
    exact FnG.no rfl
  | k + 1, ih =>
    have ok := hD j d h
    rw [sem_at h (by omega)]
    -- the values that are functions
    have vals : ∀ (q : Nat), q ≤ k → ∀ (A' : AD) (base' : Heap) (C' : CE), Wd P w K mg D p ca tb C' A' base' → ∀ i f xs st, A'.fa i = some f → semL D den q C' i xs st ≠ none → CloG P w K mg base' A' (4 * q) f (arOf D C' i) (semL D den q C' i) := by
      intro q hq A' base' C' hW' i f xs st hf hne
      by_cases hi : 1000 ≤ i
      · obtain ⟨i', rfl⟩ : ∃ i', i = 1000 + i' := ⟨i - 1000, by omega⟩
        rw [sem_clo] at hne ⊢
        unfold cloAt at hne ⊢
        by_cases hl : i' + 1 = C'.length
        · rw [if_pos hl] at hne ⊢
          cases q1 : C'[i']? with
          | none => rw [q1] at hne; exact absurd rfl hne
          | some c =>
            rw [q1] at hne
            dsimp only at hne ⊢
            have e1 : arOf D C' (1000 + i') = c.ar := by
              unfold arOf
              rw [if_pos (by omega), show 1000 + i' - 1000 = i' by omega, q1]
            rw [e1]
            by_cases hq2 : c.lv ≤ q
            · rw [if_pos hq2] at hne ⊢
              exact (hW'.clo i' c f hl q1 hf ⟨xs, st, hne⟩).mono (by omega)
            · rw [if_neg hq2] at hne
              exact absurd rfl hne
        · rw [if_neg hl] at hne
          exact absurd rfl hne
      · have hf' := hW'.fa i (by omega)
        rw [hf] at hf'
        split at hf'
        · rename_i hlt
          have e : D[i]? = some D[i] := by simp [hlt]
          have ok2 := hD i D[i] e
          obtain ⟨oc, od, dV, kV, doc, pm, an, cdv, ct, osl, e1, lk, hcd, _, _⟩ := ok2.fn.ex
          have ea : arOf D C' i = D[i].ps.length := by
            unfold arOf
            rw [if_neg hi, e]
          cases hf'
          rw [ea]
          exact ⟨_, D[i].ps, rfl, ih q (by omega) A' base' C' hW' i D[i] e, ok2.bd, oc, od, osl, hW'.kin _ _ (by rw [e1] at lk ⊢; exact lk)⟩
        · cases hf'
    refine fnG_of (k := 4 * k + 3) ok.fn ok.sc fun cdv Ar outer s H E hr hg hcv => ?_
    have gd : Gd A (cxi d P w K mg base (p.fa j) cdv Ar outer s H E) (fun cls d _ H' => E cls d H') D p (semL D den k C) (arOf D C) (4 * k) := by
      refine ⟨ih k (by omega) A base C hW, fun j d h => (hD j d h).bd, vals k (Nat.le_refl _) A base C hW, hW.fat, (fun j d h => by rw [hW.fa j (by have := lt h; omega), if_pos (lt h)]), hr.mono (by omega), hg, L2N.takes_of rfl rfl rfl rfl, rfl, ?_⟩
      have z := hr.un
      show (Ar.deeper (envOfC d.qual (defScope d.st) s.heap.objs.size (p.fa j) cdv)).units + 64 < cLine
      omega
    refine hB j d h A base (svAt D den k C) (4 * k) cdv Ar outer s H E hW.ca hW.tb (fun j hj => by rw [hW.fa j (by omega), if_pos hj]) hcv ⟨gd, hW.hn, ?_, hW.tab⟩
    intro hok
    have h3 : 3 ≤ k := of_decide_eq_true hok
    · refine ⟨4 * (k - 3), by omega, fun A' base' f sub => ?_⟩
      -- the larger ground
      have kin' : K.In base' := fun b o e => sub.base b o (hW.kin b o e)
      have ns' : base'.Ns mainGlobals mg := by
        obtain ⟨o, es, ep, e, dd, r⟩ := hW.ns
        exact ⟨o, es, ep, sub.base _ _ e, dd, r⟩
      have fan : A'.fa (1000 + C.length) = some f := by
        have z := sub.fa (1000 + C.length)
        exact z.trans (if_pos rfl)
      have mk : ∀ c : Clo, ((∃ xs st, c.g xs st ≠ none) → CloG P w K mg base' A' (4 * c.lv) f c.ar c.g) → Wd P w K mg D p ca tb (C ++ [c]) A' base' := fun c hc => by
        refine ⟨kin', ns', fun q hq => tabB_keep sub.base (hW.tab q hq), sub.ca.trans hW.ca, sub.tb.trans hW.tb, fun j hj => ?_, fun i a z => ?_, fun i a z => ?_, fun i c' f' hi h1 h2 h4 => ?_⟩
        · rw [sub.fa j, if_neg (by show ¬ j = 1000 + C.length; omega), hW.fa j hj]
        · rw [sub.fa i] at z
          rw [List.length_append, List.length_singleton]
          split at z
          · rename_i e
            have e : i = 1000 + C.length := e
            omega
          · have := hW.hn i a z
            omega
        · rw [sub.fa i] at z
          split at z
          · cases z
            exact sub.fat
          · obtain ⟨oc, od, fd, sl, e⟩ := hW.fat i a z
            exact ⟨oc, od, fd, sl, sub.base _ _ e⟩
        · rw [List.length_append, List.length_singleton] at hi
          have hi : i = C.length := by omega
          subst hi
          rw [List.getElem?_append_right (Nat.le_refl _)] at h1
          simp at h1
          subst h1
          rw [fan] at h2
          cases h2
          exact hc h4
      have wd0 : Wd P w K mg D p ca tb (C ++ [dummyC]) A' base' := mk dummyC fun ⟨_, _, z⟩ => absurd rfl z
      have eB : (svAt D den k C).B = semL D den (k - 3) (C ++ [dummyC]) := by
        unfold svAt
        exact if_pos h3
      refine ⟨fun j d h => ?_, fun j f' xs st hf' hne => ?_, fun ar g hg j d h => ?_⟩
      · rw [eB]
        exact ih (k - 3) (by omega) A' base' _ wd0 j d h
      · rw [eB] at hne ⊢
        have z := vals (k - 3) (by omega) A' base' _ wd0 j f' xs st hf' hne
        have ea : arOf D (C ++ [dummyC]) j = arOf D C j := by
          unfold arOf
          by_cases hj : 1000 ≤ j
          · rw [if_pos hj, if_pos hj]
            exfalso
            obtain ⟨j', rfl⟩ : ∃ i', j = 1000 + i' := ⟨j - 1000, by omega⟩
            rw [sem_clo] at hne
            unfold cloAt at hne
            by_cases hl : j' + 1 = (C ++ [dummyC]).length
            · rw [if_pos hl] at hne
              rw [List.length_append, List.length_singleton] at hl
              have e : j' = C.length := by omega
              subst e
              rw [List.getElem?_append_right (Nat.le_refl _)] at hne
              simp [dummyC] at hne
            · rw [if_neg hl] at hne
              exact hne rfl
          · rw [if_neg hj, if_neg hj]
        rw [ea] at z
        exact z
      · have e : (svAt D den k C).X ar g = semL D den k (C ++ [⟨k - 2, ar, g⟩]) := by
          unfold svAt
          exact if_pos h3
        rw [e]
        refine ih k (by omega) A' base' _ (mk ⟨k - 2, ar, g⟩ fun _ => ?_) j d h
        show CloG P w K mg base' A' (4 * (k - 2)) f ar g
        rw [show 4 * (k - 2) = 4 * (k - 3) + 4 by omega]
        exact hg
theorem pm_globT {A : AD} {X : Cx} {W : WX} {x : Str} {v : MV} {pos : Pos} (hg : Gl X x) (h : ∃ w u, X.mg x = some w ∧ RelV u w ∧ ∀ m H, RV (gc A X) m H v u) (hd : (x == ("__debug__" : Str)) = false) : PM A X W (.Name x pos) (eC v) := by
  obtain ⟨w, u, h1, h2, h3⟩ := h
  exact pm_const (pe_glob hg h1 h2 hd) h3
theorem nf_ty {K : PySem.W.Frag} {C : Addr} {tb : Value} (h : PySem.W.subIn K tb (.ref C) = some false) : PySem.W.notFirst K C tb = true := by unfold PySem.W.notFirst; rw [h]; simp
theorem nf_self {K : PySem.W.Frag} {C : Addr} : PySem.W.notFirst K C (.ref C) = true := by unfold PySem.W.notFirst; simp
theorem kit_self {K : PySem.W.Frag} {C : Addr} : PySem.W.kitOne K (.ref C) (.ref C) = some true := by unfold PySem.W.kitOne; simp
theorem bb_len : bootBuiltins "len" = some (.builtin "len") := by decide +kernel
theorem bb_repr : bootBuiltins "repr" = some (.builtin "repr") := by decide +kernel
theorem bb_isinstance : bootBuiltins "isinstance" = some (.builtin "isinstance") := by decide +kernel
theorem bb_abs : bootBuiltins "abs" = some (.builtin "abs") := by decide +kernel
theorem bb_min : bootBuiltins "min" = some (.builtin "min") := by decide +kernel
theorem bb_max : bootBuiltins "max" = some (.builtin "max") := by decide +kernel
theorem bb_sum : bootBuiltins "sum" = some (.builtin "sum") := by decide +kernel
theorem bb_any : bootBuiltins "any" = some (.builtin "any") := by decide +kernel
theorem bb_all : bootBuiltins "all" = some (.builtin "all") := by decide +kernel
theorem bb_divmod : bootBuiltins "divmod" = some (.builtin "divmod") := by decide +kernel
theorem bb_sorted : bootBuiltins "sorted" = some (.builtin "sorted") := by decide +kernel
theorem bb_int : bootBuiltins "int" = some (.type "int") := by decide +kernel
theorem bb_str : bootBuiltins "str" = some (.type "str") := by decide +kernel
theorem bb_bool : bootBuiltins "bool" = some (.type "bool") := by decide +kernel
theorem bb_list : bootBuiltins "list" = some (.type "list") := by decide +kernel
theorem bb_tuple : bootBuiltins "tuple" = some (.type "tuple") := by decide +kernel
end CS
namespace CS
open PySem PySem.Spec PyProof.Rows L2
section
variable {A : AD} {X : Cx} {W : WX} {D : List DefT} {p : Pl} {S : Nat → Fn} {ar : Nat → Nat} {l : Nat} {x : Str} {pn pos : Pos} {e : Expr} {es : List Expr} {n i : Nat} {fa : DA}
def eCallV (i : Nat) (ar : Nat → Nat) (n : Nat) (S : Nat → Fn) (fa : DA) : DE := fun ρ st => match ρ[i]? with
  | some (some (.fn j)) => if ar j = n then bnd (fa ρ st) fun xs st1 => S j xs st1 else none
  | _ => none
theorem call_val (G : Gd A X W D p S ar l) {j : Nat} {f : Addr} (hf : A.fa j = some f) (hn : ar j = n) {pins : List (Addr × Obj)} {σ : L2.St} {H : Hp} {s : Shared} {Q : VK} {m : List Addr} {st : Sto} {xs : List MV} {vs : List V} {us : List Value} (I : Inv X pins σ H s) (r : Rel (gc A X) m st H)
    (h1 : RVs (gc A X) m H xs vs) (q1 : Vals vs us) (hl : xs.length = n) (k : Run (gc A X) W σ m H (S j xs st) (kV (gc A X) Q)) : wpAny (model X.prog X.w) X.A (call (.ref f) us) (EP X pins σ Q) X.xe s := by
  have ne : S j xs st ≠ none := fun z => by rw [z] at k; exact k
  obtain ⟨fd, ps, h2, h3, h4, h5⟩ := (G.val j f xs st hf ne).ex
  have lu : us.length = ps.length := by rw [← q1.length, ← h1.length, hl, h2, hn]
  have b := h4 s us I.kIn (by rw [List.append_nil]; exact lu)
  rw [List.append_nil] at b
  exact run_g (args := ⟨us, []⟩) h3 (G.room.mono (Nat.le_succ l)) G.gd G.tk I b q1 ⟨by rw [← h1.length, hl, h2, hn], m, st, _, r, h1, k.wish fun _ _ _ z => z⟩
theorem pm_callV (G : Gd A X W D p S ar l) (hi : X.N[i]? = some x) (hv : Vis X.env.scope x) (hd : (x == ("__debug__" : Str)) = false) (hcd : (x == ("__classdict__" : Str)) = false) (ha : PMA A X W (e :: es) fa) (hl : LenA fa n)
    (he : starEach (e :: es) X.env = (false, eval e X.env) :: starEach es X.env) (hpl : (backTo pos (starEach es X.env)).any (·.1) = false) : PM A X W (.Call (.Name x pn) (e :: es) [] pos) (eCallV i ar n S fa) := by
  refine ⟨fun pins s σ H Q I ⟨m, ρ, st, r, v, k⟩ => ?_⟩
  unfold eCallV at k
  split at k
  · rename_i j hρ
    split at k
    · rename_i hn
      obtain ⟨u, hu, ru⟩ := v.at_ i _ hρ
      cases ru with
      | @fn j f hf =>
      refine wpAny_Call_Name_kw (thn ((pe_var (pos := pn) (i := i) hi hv hd hcd).run pins s σ H (fun w H1 => w = .ref f ∧ H1 = H) I ⟨.ref f, hu, rfl, rfl⟩) fun u s1 ⟨w, H1, I1, r1, q1⟩ => ?_)
      obtain ⟨ev, eH⟩ := q1
      subst ev
      rw [eH] at I1
      obtain rfl : u = Value.ref f := r1
      obtain ⟨oc, od, fd, sl, fat⟩ := G.fat j f hf
      have w2 : tMA (gc A X) W fa σ H (fun vs H2 => ∃ m2 st2 xs, Rel (gc A X) m2 st2 H2 ∧ RVs (gc A X) m2 H2 xs vs ∧ xs.length = n ∧ Run (gc A X) W σ m2 H2 (S j xs st2) (kV (gc A X) Q)) :=
        ⟨m, ρ, st, r, v, (Run.bnd k).known.imp fun xs st2 m2 H2 r2 e2 ⟨eq, k2⟩ us hus => ⟨m2, st2, xs, r2, hus, hl _ _ _ _ eq, k2⟩⟩
      refine PySem.W.callWith_F ⟨oc, od, fd, sl, I1.bk _ _ fat⟩ (thn (ha.run pos pins s1 σ H _ I1 w2) fun us s2 hh => ?_) he hpl
      obtain ⟨vs, H2, I2, rv, m2, st2, xs, r2, hx, hn2, k2⟩ := hh
      exact ⟨⟨oc, od, fd, sl, I2.bk _ _ fat⟩, call_val G hf hn I2 r2 hx rv hn2 k2⟩
    · exact k.elim
  · exact k.elim
theorem pm_callV0 (G : Gd A X W D p S ar l) (hi : X.N[i]? = some x) (hv : Vis X.env.scope x) (hd : (x == ("__debug__" : Str)) = false) (hcd : (x == ("__classdict__" : Str)) = false) : PM A X W (.Call (.Name x pn) [] [] pos) (eCallV i ar 0 S aNil) := by
  refine ⟨fun pins s σ H Q I ⟨m, ρ, st, r, v, k⟩ => ?_⟩
  unfold eCallV at k
  split at k
  · rename_i j hρ
    split at k
    · rename_i hn
      obtain ⟨u, hu, ru⟩ := v.at_ i _ hρ
      cases ru with
      | @fn j f hf =>
      refine wpAny_Call_Name_kw (thn ((pe_var (pos := pn) (i := i) hi hv hd hcd).run pins s σ H (fun w H1 => w = .ref f ∧ H1 = H) I ⟨.ref f, hu, rfl, rfl⟩) fun u s1 ⟨w, H1, I1, r1, q1⟩ => ?_)
      obtain ⟨ev, eH⟩ := q1
      subst ev
      rw [eH] at I1
      obtain rfl : u = Value.ref f := r1
      obtain ⟨oc, od, fd, sl, fat⟩ := G.fat j f hf
      refine PySem.W.callWith_F0 ⟨oc, od, fd, sl, I1.bk _ _ fat⟩ ?_
      exact call_val (xs := []) (vs := []) G hf hn I1 r .nil .nil rfl k
    · exact k.elim
  · exact k.elim
end
end CS
namespace CS
open PySem PySem.Spec PyProof.Rows L2 LamX
def LamH (H H1 : Hp) (P c' : Addr) (q : Str) : Prop := H1 = H ∨ ∃ ps ps' : Array Value, H P = some (.tbl ps) ∧ H c' = none ∧ H1 = upd (upd H P (.tbl ps')) c' (CodeO c' q)
section
variable {X : Cx} {pins : List (Addr × Obj)} {σ : L2.St} {H H1 : Hp} {s : Shared} {A : AD} {m : List Addr} {st : Sto} {P c' : Addr} {q : Str}
theorem lamH_at (l : LamH H H1 P c' q) {b : Addr} {o : HO} (e : H b = some o) (n : ∀ ps, o ≠ .tbl ps) : H1 b = some o := by
  rcases l with rfl | ⟨ps, ps', h1, h2, rfl⟩
  · exact e
  · have n1 : b ≠ c' := ne_of_none e h2
    have n2 : b ≠ P := fun z => n ps (by rw [z, h1] at e; exact (Option.some.inj e).symm)
    rw [upd_ne n1, upd_ne n2]
    exact e
theorem lamH_ext {c : GC} (l : LamH H H1 P c' q) : Ext c m H m H1 := by
  refine ⟨⟨[], by simp⟩, fun b xs h => ?_, fun _ h => .inl h, fun b o e _ n => lamH_at l e n, fun b h => ?_⟩
  · rcases h with ⟨o, h, hd⟩ | h
    · exact .inl ⟨o, lamH_at l h (fun _ z => by cases z), hd⟩
    · exact .inr h
  · rcases l with rfl | ⟨ps, ps', h1, h2, rfl⟩
    · exact h
    · by_cases e1 : b = c'
      · rw [e1, upd_same]; simp
      · rw [upd_ne e1]
        by_cases e2 : b = P
        · rw [e2, upd_same]; simp
        · rw [upd_ne e2]; exact h
theorem lamH_rel {c : GC} (l : LamH H H1 P c' q) (t : TabS H1 P q) (hu : ∀ p ∈ c.tb, p.1 = P → p.2 = q) (r : Rel c m st H) : Rel c m st H1 := by
  have e : Ext c m H m H1 := lamH_ext l
  refine ⟨r.len, r.nd, fun i o h => ?_, r.gr.trans e, fun p hp => ?_⟩
  · obtain ⟨a, ha, w⟩ := r.obj i o h
    refine ⟨a, ha, w.mono e ?_⟩
    obtain ⟨u, hu⟩ := w.some
    rw [hu]
    refine lamH_at l hu fun ps z => ?_
    subst z
    cases o with
    | lst xs => obtain ⟨vs, h1, _⟩ := w; rw [hu] at h1; cases h1
    | frz xs => obtain ⟨ob, vs, h1, _⟩ := w; rw [hu] at h1; cases h1
    | ins k fs => obtain ⟨C, dx, gs, _, h1, _⟩ := w; rw [hu] at h1; cases h1
    | dct => have h1 : H a = some (.dK []) := w; rw [hu] at h1; cases h1
  · by_cases hb : p.1 = P
    · rw [hb, hu p hp hb]; exact t
    · obtain ⟨ps, a1, a2, a3⟩ := r.tabs p hp
      have a1' : H1 p.1 = some (.tbl ps) := by
        rcases l with rfl | ⟨ps0, ps', h1, h2, rfl⟩
        · exact a1
        · rw [upd_ne (ne_of_none a1 h2), upd_ne hb]; exact a1
      refine ⟨ps, a1', a2, fun pos cv hc => ?_⟩
      obtain ⟨d, e1, e2⟩ := a3 pos cv hc
      exact ⟨d, e1, lamH_at l e2 codeO_ne⟩
structure LamD (A : AD) (X : Cx) (params : Arguments) (body : Expr) (scope : Scope) (ps : List Str) (bs : List Bool) (c P : Addr) : Prop where
  L : LamP X.env.scope scope ps
  cap : capOk X.N scope bs = true
  df : defaultsOf params X.env = ([], [])
  bd : ∀ (q : Str) (cl : List (Str × Addr)) (pm cv ctv : Value) (us : List Value), us.length = ps.length → bindArgs (PySem.W.kla_fn "<lambda>" q params body scope cl pm cv ctv) ⟨us, []⟩ = pure (ps.zip us)
  code : X.env.code = .ref c
  tab : TabB X.base X.mg c P
  tb : (P, X.env.qual ++ "<lambda>") ∈ A.tb
  un : ∀ p ∈ A.tb, p.1 = P → p.2 = X.env.qual ++ "<lambda>"
  cab : ∀ x, X.fn x = true
structure LamAt (X : Cx) (params : Arguments) (body : Expr) (scope : Scope) (H1 : Hp) (s' : Shared) (f c' : Addr) (pm ctv : Value) : Prop where
  at_ : s'.heap.get? f = some (PySem.W.kla_obj "<lambda>" (X.env.qual ++ "<lambda>") params body scope (cloFrom X.env.cells scope.names []) pm c' ctv)
  no : H1 f = none
  nf : f ∉ frs X.stack
  code : H1 c' = some (CodeO c' (X.env.qual ++ "<lambda>"))
  sz : s'.heap.objs.size = f + 1
theorem lam_mk {params : Arguments} {body : Expr} {scope : Scope} {ps : List Str} {bs : List Bool} {c P : Addr} {lpos : Pos} {Q E : Value → Shared → Prop} (D : LamD A X params body scope ps bs c P) (I : Inv X pins σ H s) (hT : Tabs A.tb H)
    (h : ∀ (f c' : Addr) (pm ctv : Value) (H1 : Hp) (s' : Shared), Inv X pins σ H1 s' → LamH H H1 P c' (X.env.qual ++ "<lambda>") → TabS H1 P (X.env.qual ++ "<lambda>") → LamAt X params body scope H1 s' f c' pm ctv → Q (.ref f) s') :
    wpAny (model X.prog X.w) X.A (eval (.Lambda params body scope lpos) X.env) Q E s := by
  obtain ⟨ps0, hP, ht, ha⟩ := hT _ D.tb
  have bP : s.heap.BuiltinsAt X.mg P := D.tab.bm.keeps I.bk
  have hP' : s.heap.get? P = some { cls := .none, data := .fields ps0 } := I.hok P _ hP
  have hclo := closure_ok (D.L.has I.ok)
  have off : ∀ f, s.heap.objs.size ≤ f → f ∉ frs X.stack := fun f hf z => (List.mem_cons.mp (I.stkSub _ z)).elim
    (fun e => Nat.lt_irrefl _ (Nat.lt_of_lt_of_le (by have h1 := I.lt; rw [← e] at h1; exact h1) hf)) fun e => I.nofs hf e
  refine PySem.W.kla_eval D.df ?_
  cases hc : codeAmong lpos ps0.toList with
  | none =>
    refine PySem.W.kla_makeFunction (mg := X.mg) (c := c) (P := P) (ps := ps0) hclo I.ok.glob (I.mod.glob.keeps I.bk) D.code (D.tab.code.keeps I.bk) hP' ht hc D.tab.gP bP fun c' ctv h' tk hx hge hlt hrec htb => ?_
    obtain ⟨c2, oc, vs, t, e2, hoc, hd, hv⟩ := hrec
    cases e2
    have nC : H c' = none := I.hok.fresh hge
    have old : s.heap.objs.size ≤ h'.objs.size := Nat.le_trans hge (Nat.le_of_lt hlt)
    have J := inv_table (t' := tk) (more := #[rawInt lpos.line, rawInt lpos.col, .ref c']) (q := X.env.qual ++ "<lambda>") (h' := h'.push (PySem.W.kla_obj "<lambda>" (X.env.qual ++ "<lambda>") params body scope (cloFrom X.env.cells scope.names []) ((X.mg "__name__").getD .none) c' ctv)) I hP
      (fun b o hb e => Heap.get?_push_of_some _ (hx b o hb e)) (Heap.get?_push_of_some _ htb) hge ⟨oc, vs, t, Heap.get?_push_of_some _ hoc, hd, hv⟩
    have lh : LamH H _ P c' (X.env.qual ++ "<lambda>") := .inr ⟨ps0, ps0 ++ #[rawInt lpos.line, rawInt lpos.col, .ref c'], hP, nC, rfl⟩
    have eL : (ps0 ++ #[rawInt lpos.line, rawInt lpos.col, .ref c']).toList = ps0.toList ++ [rawInt lpos.line, rawInt lpos.col, .ref c'] := by simp
    have nPc : P ≠ c' := ne_of_none hP nC
    have n1 : h'.objs.size ≠ c' := Nat.ne_of_gt hlt
    have n2 : h'.objs.size ≠ P := Nat.ne_of_gt (Nat.lt_of_lt_of_le (Heap.lt_size hP') old)
    refine h h'.objs.size c' _ ctv _ _ J lh ⟨_, by rw [upd_ne nPc, upd_same], by rw [eL]; exact PySem.TriplesOk_snoc _ _ _ _ ht, fun p' cv hcv => ?_⟩ ⟨Heap.get?_push_size _ rfl, by rw [upd_ne n1, upd_ne n2]; exact I.hok.fresh old, off _ old, upd_same, Heap.size_push _ _⟩
    rw [eL] at hcv
    rcases among_app _ ht hcv with z | z
    · obtain ⟨c0, e1, e2⟩ := ha p' cv z
      exact ⟨c0, e1, lamH_at lh e2 codeO_ne⟩
    · exact ⟨c', z, upd_same⟩
  | some cv =>
    obtain ⟨c', e, hco⟩ := ha lpos cv hc
    subst e
    refine PySem.W.kla_makeFunctionHit (mg := X.mg) (c := c) (P := P) (ps := ps0) hclo I.ok.glob (I.mod.glob.keeps I.bk) D.code (D.tab.code.keeps I.bk) hP' ht hc bP fun ctv h' tk hx hsz => ?_
    have J : Inv X pins σ H { s with heap := h'.push (PySem.W.kla_obj "<lambda>" (X.env.qual ++ "<lambda>") params body scope (cloFrom X.env.cells scope.names []) ((X.mg "__name__").getD .none) c' ctv), toks := tk } := I.kept fun b o e => Heap.get?_push_of_some _ (hx b o e)
    exact h h'.objs.size c' _ ctv H _ J (.inl rfl) ⟨ps0, hP, ht, ha⟩ ⟨Heap.get?_push_size _ rfl, I.hok.fresh hsz, off _ hsz, hco, Heap.size_push _ _⟩
structure AftL (A : AD) (X : Cx) (W : WX) (pins : List (Addr × Obj)) (σ : L2.St) (ρ : MEnv) (params : Arguments) (body : Expr) (scope : Scope) (m0 : List Addr) (H0 : Hp) (g : List MV → Sto → R MV) (Q : VK) (us : List Value) (s' : Shared) : Prop where
  ex : ∃ (f c' : Addr) (pm ctv : Value) (H1 : Hp) (m1 : List Addr) (st1 : Sto) (xs : List MV) (vs : List V) (ws : List Value), us = ws ++ [.ref f] ∧ Ext (gc A X) m0 H0 m1 H1 ∧ Inv X pins σ H1 s' ∧ Rel (gc A X) m1 st1 H1 ∧ REnv (gc A X) m1 H1 ρ σ ∧ RVs (gc A X) m1 H1 xs vs ∧ Vals vs ws ∧
    LamAt X params body scope H1 s' f c' pm ctv ∧ Run (gc A X) W σ m1 H1 (g xs st1) (kV (gc A X) Q)
def PML1 (A : AD) (X : Cx) (W : WX) (params : Arguments) (body : Expr) (scope : Scope) (n : Nat) (es : List Expr) (fa : DA) : Prop :=
  ∀ (pos : Pos) (pins : List (Addr × Obj)) (s : Shared) (σ : L2.St) (H : Hp) (m : List Addr) (ρ : MEnv) (st : Sto) (g : List MV → Sto → R MV) (Q : VK), Inv X pins σ H s → Rel (gc A X) m st H → REnv (gc A X) m H ρ σ → Run (gc A X) W σ m H (bnd (fa ρ st) g) (kV (gc A X) Q) →
    wpAny (model X.prog X.w) X.A (spliced (backTo pos (starEach es X.env))) (fun us s' => us.length = n + 1 ∧ AftL A X W pins σ ρ params body scope m H g Q us s') X.xe s
variable {W : WX} {params : Arguments} {body : Expr} {scope : Scope} {ps : List Str} {bs : List Bool} {c : Addr} {lpos : Pos} {e : Expr} {es : List Expr} {n : Nat} {fe : DE} {fa : DA}
theorem pla_last (D : LamD A X params body scope ps bs c P) : PML1 A X W params body scope 0 [.Lambda params body scope lpos] aNil := by
  intro pos pins s σ H m ρ st g Q I r v k
  show wpAny _ _ (spliced ((false, eval (.Lambda params body scope lpos) X.env) :: backTo pos (starEach [] X.env))) _ _ s
  refine Calls.spliced_cons (lam_mk D I r.tabs fun f c' pm ctv H1 s' J lh t la => Calls.spliced_nil ⟨rfl, f, c', pm, ctv, H1, m, st, [], [], [], rfl, lamH_ext lh, J, lamH_rel lh t D.un r, v.mono (lamH_ext lh), .nil, .nil, la, ?_⟩)
  exact Run.under (show Run (gc A X) W σ m H (g [] st) (kV (gc A X) Q) from k) (lamH_ext lh)
theorem pla_cons (he : PM A X W e fe) (hr : PML1 A X W params body scope n es fa) (hs : ∀ pos, backTo pos (starEach (e :: es) X.env) = (false, eval e X.env) :: backTo pos (starEach es X.env)) : PML1 A X W params body scope (n + 1) (e :: es) (aCons fe fa) := by
  intro pos pins s σ H m ρ st g Q I r v k
  rw [hs pos]
  have w : tM (gc A X) W fe σ H (fun u H1 => ∃ m1 st1 x, Ext (gc A X) m H m1 H1 ∧ Rel (gc A X) m1 st1 H1 ∧ REnv (gc A X) m1 H1 ρ σ ∧ RV (gc A X) m1 H1 x u ∧ Run (gc A X) W σ m1 H1 (bnd (fa ρ st1) fun xs st2 => g (x :: xs) st2) (kV (gc A X) Q)) := by
    refine ⟨m, ρ, st, r, v, ?_⟩
    have e1 : bnd (aCons fe fa ρ st) g = bnd (fe ρ st) fun x st1 => bnd (fa ρ st1) fun xs st2 => g (x :: xs) st2 := by
      unfold aCons
      cases fe ρ st with
      | none => rfl
      | some q =>
        obtain ⟨q, st1⟩ := q
        cases q with
        | error _ => rfl
        | ok x =>
          show bnd (bnd (fa ρ st1) fun xs st2 => ret (x :: xs) st2) g = bnd (fa ρ st1) fun xs st2 => g (x :: xs) st2
          cases fa ρ st1 with
          | none => rfl
          | some q =>
            obtain ⟨q, st2⟩ := q
            cases q <;> rfl
    rw [e1] at k
    exact k.bnd.imp fun x st1 m1 H1 r1 e1 k1 u hu => ⟨m1, st1, x, e1, r1, v.mono e1, hu, k1⟩
  refine Calls.spliced_cons (thn (he.run pins s σ H _ I w) fun u s1 ⟨y, H1, I1, ry, m1, st1, x, e1, r1, v1, hx, k1⟩ => ?_)
  refine wpAny_mono (hr pos pins s1 σ H1 m1 ρ st1 (fun xs st2 => g (x :: xs) st2) Q I1 r1 v1 k1) (fun us s2 ⟨hl, h⟩ => ⟨by rw [List.length_cons, hl], ?_⟩) fun _ _ z => z
  obtain ⟨f, c', pm, ctv, H2, m2, st2, xs, vs, ws, eu, e2, J, r2, v2, hxs, hws, la, k2⟩ := h.ex
  exact ⟨f, c', pm, ctv, H2, m2, st2, x :: xs, y :: vs, u :: ws, by rw [eu]; rfl, e1.trans e2, J, r2, v2, .cons (hx.mono e2) hxs, .cons ry hws, la, k2⟩
end
theorem run_gB {base' : Heap} {X : Cx} {W : WX} {pins : List (Addr × Obj)} {σ : L2.St} {H : Hp} {s : Shared} {l : Nat} {f : Addr} {fd : FuncData} {ps : List Str} {sp : Sp} {Q : VK} {args : Args} {us : List Value} {vs : List V} (F : FnG X.prog X.w X.K X.mg base' l f fd ps sp) (hr : Room l X.A) (hg : X.A.guards = some []) (tk : L2N.Takes X W) (I : Inv X pins σ H s)
    (e0 : Env0 X.prog X.w X.K X.mg base' X.A X.stack s H) (hb : BindsTo s fd args (ps.zip us)) (r : Vals vs us) (h : sp vs H Q fun cls d H' => W cls d σ H') : wpAny (model X.prog X.w) X.A (call (.ref f) args.pos args.kw) (EP X pins σ Q) X.xe s := by
  refine wpAny_call (codeAny_mono (F.run X.A X.stack s H args us vs Q _ hr hg e0 hb r h) fun res s' hq => ?_)
  match res, hq with
  | .error e, hq => exact L2N.passAt tk σ pins H s e s' I hq
  | .ok (.ret u), hq => exact I.after hq
  | .ok .next, hq => exact hq.elim
  | .ok .brk, hq => exact hq.elim
  | .ok .cont, hq => exact hq.elim
abbrev grBase (X : Cx) (s : Shared) (H : Hp) : Heap := PySem.W.hideAll (hidT s.heap H) (frs X.stack)
abbrev grAD (A : AD) (n : Nat) (f : Addr) (m : List Addr) (H : Hp) : AD := { fa := fun i => if i = n then some f else A.fa i, ca := A.ca, tb := A.tb, m0 := m, H0 := H }
theorem grBase_get {X : Cx} {s : Shared} {H : Hp} {b : Addr} {o : Obj} (e : s.heap.get? b = some o) (n : H b = none) (nf : b ∉ frs X.stack) : (grBase X s H).get? b = some o := PySem.W.hideAll_get _ (hidT_get e n) nf
theorem grBase_of {X : Cx} {s : Shared} {H : Hp} {b : Addr} {o : Obj} (e : (grBase X s H).get? b = some o) : s.heap.get? b = some o ∧ H b = none := of_hidT (PySem.W.of_hideAll _ e)
theorem grBase_base {X : Cx} {pins : List (Addr × Obj)} {σ : L2.St} {H : Hp} {s : Shared} (I : Inv X pins σ H s) {b : Addr} {o : Obj} (e : X.base.get? b = some o) : (grBase X s H).get? b = some o := by
  obtain ⟨h1, h2⟩ := I.bs b o e
  refine grBase_get h1 h2 fun hm => ?_
  have z := (I.stack.mem hm).1
  rw [e] at z
  cases z
theorem env0_gr {X : Cx} {pins : List (Addr × Obj)} {σ : L2.St} {H : Hp} {s : Shared} (I : Inv X pins σ H s) : Env0 X.prog X.w X.K X.mg (grBase X s H) X.A X.stack s H := by
  have e := I.env0
  have up : ∀ b o, X.base.get? b = some o → (grBase X s H).get? b = some o := fun b o z => grBase_base I z
  have nsU : ∀ {a : Addr} {m : Str → Option Value}, X.base.Ns a m → (grBase X s H).Ns a m := fun {a m} ⟨o, es, ep, e, d, r⟩ => ⟨o, es, ep, up _ _ e, d, r⟩
  obtain ⟨k1, k2, ⟨mb, k3, k4⟩, mc, k5, k6⟩ := e.mod
  refine ⟨e.frames, ⟨fun b o z => up b o (k1 b o z), nsU k2, ⟨mb, nsU k3, k4⟩, mc, nsU k5, k6⟩, fun b o z => grBase_of z, ?_, funFrames_none e.funs fun L hL => PySem.W.hideAll_none _ hL, e.frf, e.hok, e.bare⟩
  show (PySem.W.hideAll (hidT s.heap H) (frs X.stack)).objs.size ≤ s.heap.objs.size
  rw [PySem.W.hideAll_size, hidT_size]
  exact Nat.le_refl _
section
variable {X : Cx} {pins : List (Addr × Obj)} {σ : L2.St} {s : Shared} {A : AD} {W : WX} {D : List DefT} {p : Pl} {v : SV} {l lb : Nat} {params : Arguments} {body : Expr} {scope : Scope} {ps : List Str} {bs : List Bool} {c P : Addr} {fb : DE} {f c' : Addr} {pm ctv : Value} {H1 : Hp} {m1 : List Addr} {st1 : Sto} {ρ : MEnv}
theorem clo_at (G : GdL A X W D p v l)
    (low : ∀ (A' : AD) (base' : Heap) (f : Addr), SubW A X.base A' base' v.n f → (∀ j d, D[j]? = some d → FnG X.prog X.w X.K X.mg base' lb (p.fa j) (p.fd j) d.ps (spM (gcA A' X.prog X.w X.K X.mg base') (v.B j) d.ps.length)) ∧ (∀ j f xs st, A'.fa j = some f → v.B j xs st ≠ none → CloG X.prog X.w X.K X.mg base' A' lb f (v.ar j) (v.B j)) ∧
      ∀ (ar : Nat) (g : Fn), CloG X.prog X.w X.K X.mg base' A' (lb + 4) f ar g → ∀ j d, D[j]? = some d → FnG X.prog X.w X.K X.mg base' l (p.fa j) (p.fd j) d.ps (spM (gcA A' X.prog X.w X.K X.mg base') (v.X ar g j) d.ps.length))
    (J : Inv X pins σ H1 s) (DL : LamD A X params body scope ps bs c P) (r1 : Rel (gc A X) m1 st1 H1) (v1 : REnv (gc A X) m1 H1 ρ σ) (la : LamAt X params body scope H1 s f c' pm ctv)
    (hbody : ∀ (A' : AD) (base' : Heap) (f c' : Addr) (S' : Nat → Fn) (ar : Nat → Nat) (lb : Nat) (Ar : Around) (outer : List Env) (s2 : Shared) (H2 : Hp) (E : XK), A'.ca = A.ca → (∀ b o, X.base.get? b = some o → base'.get? b = some o) → S' = v.B → ar = v.ar → (∀ i, i < v.n → A'.fa i = A.fa i) →
      Gd A' (lcx X base' ps Ar outer s2 H2 E scope f c') (fun cls d _ H' => E cls d H') D p S' ar lb → PM A' (lcx X base' ps Ar outer s2 H2 E scope f c') (fun cls d _ H' => E cls d H') body fb) :
    SubW A X.base (grAD A v.n f m1 H1) (grBase X s H1) v.n f ∧ CloG X.prog X.w X.K X.mg (grBase X s H1) (grAD A v.n f m1 H1) (lb + 2) f ps.length (lamM fb bs ps.length ρ) ∧ Rel (gcA (grAD A v.n f m1 H1) X.prog X.w X.K X.mg (grBase X s H1)) m1 st1 H1 := by
  have up : ∀ b o, X.base.get? b = some o → (grBase X s H1).get? b = some o := fun b o z => grBase_base J z
  have fat : (grBase X s H1).get? f = some (PySem.W.kla_obj "<lambda>" (X.env.qual ++ "<lambda>") params body scope (cloFrom X.env.cells scope.names []) pm c' ctv) := grBase_get la.at_ la.no la.nf
  have sub : SubW A X.base (grAD A v.n f m1 H1) (grBase X s H1) v.n f := ⟨up, rfl, rfl, fun i => rfl, _, _, _, _, fat⟩
  have hn : ∀ i a, A.fa i = some a → i ≠ v.n := fun i a z => Nat.ne_of_lt (G.hn i a z)
  have fa' : ∀ i a, A.fa i = some a → (grAD A v.n f m1 H1).fa i = some a := fun i a z => by
    show (if i = v.n then some f else A.fa i) = some a
    rw [if_neg (hn i a z)]; exact z
  obtain ⟨fnsB, valsB, _⟩ := low _ _ f sub
  have hcm : c' ∉ m1 := fun hm => by
    obtain ⟨i, hi⟩ := List.mem_iff_getElem?.mp hm
    have hlt : i < st1.length := by rw [← r1.len]; exact (List.getElem?_eq_some_iff.mp hi).1
    obtain ⟨b, hb, w⟩ := r1.obj i st1[i] (by simp [hlt])
    rw [hi] at hb
    cases hb
    have hc := la.code
    revert w
    cases st1[i] with
    | lst xs => rintro ⟨vs, h1, _⟩; rw [hc] at h1; cases h1
    | frz xs => rintro ⟨ob, vs, h1, _⟩; rw [hc] at h1; cases h1
    | ins k fs => rintro ⟨C, dx, gs, _, h1, _⟩; rw [hc] at h1; cases h1
    | dct => intro (h1 : H1 c' = some (.dK [])); rw [hc] at h1; cases h1
  have env' : REnv (gcA (grAD A v.n f m1 H1) X.prog X.w X.K X.mg (grBase X s H1)) m1 H1 ρ σ := ⟨v1.len, fun i x h => by
    obtain ⟨u, h1, h2⟩ := v1.at_ i x h
    exact ⟨u, h1, RV.cg (c := gc A X) (c' := gcA (grAD A v.n f m1 H1) X.prog X.w X.K X.mg (grBase X s H1)) rfl fa' (fun _ _ z => z) h2⟩⟩
  have fn := clo_fnG (k := lb + 1) (fb := fb) (A' := grAD A v.n f m1 H1) (base' := grBase X s H1) (ps := ps) (bs := bs) (m := m1) (ρ := ρ) J (fun x c e => J.ok.cab x c (DL.cab x) e) DL.L DL.cap fat la.code hcm rfl rfl env' (fun b o e n nf => grBase_get e n nf) (DL.bd _ _ _ _ _) fun Ar outer s2 H2 E hr hg => by
    refine hbody (grAD A v.n f m1 H1) (grBase X s H1) f c' v.B v.ar lb Ar outer s2 H2 E rfl up rfl rfl (fun i hi => if_neg (Nat.ne_of_lt hi)) ⟨fnsB, G.gd.bnd, valsB, fun j f' z => ?_, fun j d h => fa' _ _ (G.gd.fnv j d h), hr, hg, L2N.takes_of rfl rfl rfl rfl, rfl, ?_⟩
    · rw [sub.fa j] at z
      split at z
      · cases z; exact sub.fat
      · obtain ⟨oc, od, fd, sl, e⟩ := G.gd.fat j f' z
        exact ⟨oc, od, fd, sl, up _ _ e⟩
    · have z := hr.un
      show (Ar.deeper (LamX.lamEnv X scope s2.heap.objs.size f c')).units + 64 < cLine
      omega
  refine ⟨sub, ⟨_, ps, rfl, fn, fun s us _ hl => ?_, _, _, _, fat⟩, r1.len, r1.nd, fun i o h => ?_, Ext.refl, r1.tabs⟩
  · rw [List.append_nil] at hl ⊢
    exact .of_eq (DL.bd _ _ _ _ _ us hl)
  · obtain ⟨a, ha, w⟩ := r1.obj i o h
    exact ⟨a, ha, RO.cg (c := gc A X) (c' := gcA (grAD A v.n f m1 H1) X.prog X.w X.K X.mg (grBase X s H1)) rfl fa' (fun _ _ z => z) w⟩
theorem clo_world {j : Nat} {d : DefT} (G : GdL A X W D p v l) (hj : D[j]? = some d)
    (low : ∀ (A' : AD) (base' : Heap) (f : Addr), SubW A X.base A' base' v.n f → (∀ j d, D[j]? = some d → FnG X.prog X.w X.K X.mg base' lb (p.fa j) (p.fd j) d.ps (spM (gcA A' X.prog X.w X.K X.mg base') (v.B j) d.ps.length)) ∧ (∀ j f xs st, A'.fa j = some f → v.B j xs st ≠ none → CloG X.prog X.w X.K X.mg base' A' lb f (v.ar j) (v.B j)) ∧
      ∀ (ar : Nat) (g : Fn), CloG X.prog X.w X.K X.mg base' A' (lb + 4) f ar g → ∀ j d, D[j]? = some d → FnG X.prog X.w X.K X.mg base' l (p.fa j) (p.fd j) d.ps (spM (gcA A' X.prog X.w X.K X.mg base') (v.X ar g j) d.ps.length))
    (J : Inv X pins σ H1 s) (DL : LamD A X params body scope ps bs c P) (r1 : Rel (gc A X) m1 st1 H1) (v1 : REnv (gc A X) m1 H1 ρ σ) (la : LamAt X params body scope H1 s f c' pm ctv)
    (hbody : ∀ (A' : AD) (base' : Heap) (f c' : Addr) (S' : Nat → Fn) (ar : Nat → Nat) (lb : Nat) (Ar : Around) (outer : List Env) (s2 : Shared) (H2 : Hp) (E : XK), A'.ca = A.ca → (∀ b o, X.base.get? b = some o → base'.get? b = some o) → S' = v.B → ar = v.ar → (∀ i, i < v.n → A'.fa i = A.fa i) →
      Gd A' (lcx X base' ps Ar outer s2 H2 E scope f c') (fun cls d _ H' => E cls d H') D p S' ar lb → PM A' (lcx X base' ps Ar outer s2 H2 E scope f c') (fun cls d _ H' => E cls d H') body fb) :
    True ∧ FnG X.prog X.w X.K X.mg (grBase X s H1) l (p.fa j) (p.fd j) d.ps (spM (gcA (grAD A v.n f m1 H1) X.prog X.w X.K X.mg (grBase X s H1)) (v.X ps.length (lamM fb bs ps.length ρ) j) d.ps.length) ∧ Env0 X.prog X.w X.K X.mg (grBase X s H1) X.A X.stack s H1 ∧ Rel (gcA (grAD A v.n f m1 H1) X.prog X.w X.K X.mg (grBase X s H1)) m1 st1 H1 := by
  obtain ⟨sub, cg, rA⟩ := clo_at G low J DL r1 v1 la hbody
  exact ⟨trivial, (low _ _ f sub).2.2 ps.length _ (cg.mono (by omega)) j d hj, env0_gr J, rA⟩
end
section
variable {X : Cx} {pins : List (Addr × Obj)} {σ : L2.St} {H H1 : Hp} {s : Shared} {A : AD} {m : List Addr} {st : Sto} {P c' : Addr} {q : Str} {W : WX} {params : Arguments} {body : Expr} {scope : Scope} {ps : List Str} {bs : List Bool} {c : Addr} {lpos : Pos} {e : Expr} {es : List Expr} {n : Nat} {fe : DE} {fa : DA}
def eCallL (v : SV) (j n : Nat) (mk : MEnv → Fn) (arL : Nat) (fa : DA) : DE := fun ρ st => if v.ok then bnd (fa ρ st) fun xs st1 => leave (noFn v.n) v.n st1 (v.X arL (mk ρ) j (xs ++ [.fn v.n]) st1) else none
theorem pm_callL {D : List DefT} {p : Pl} {v : SV} {l j : Nat} {d : DefT} {x : Str} {pn pos : Pos} {fb : DE} (G : GdL A X W D p v l) (hj : D[j]? = some d) (hd : d.ps.length = n + 1) (hg : Gl X x) (hm : X.mg x = some (.ref (p.fa j))) (hk : PySem.W.keepIn X.K (.ref (p.fa j)) = true)
    (DL : LamD A X params body scope ps bs c P) (ha : PML1 A X W params body scope n (e :: es) fa) (hne : (e :: es).length = n + 1) (hdb : (x == ("__debug__" : Str)) = false)
    (hbody : ∀ (A' : AD) (base' : Heap) (f c' : Addr) (S' : Nat → Fn) (ar : Nat → Nat) (lb : Nat) (Ar : Around) (outer : List Env) (s2 : Shared) (H2 : Hp) (E : XK), A'.ca = A.ca → (∀ b o, X.base.get? b = some o → base'.get? b = some o) → S' = v.B → ar = v.ar → (∀ i, i < v.n → A'.fa i = A.fa i) →
      Gd A' (lcx X base' ps Ar outer s2 H2 E scope f c') (fun cls d _ H' => E cls d H') D p S' ar lb → PM A' (lcx X base' ps Ar outer s2 H2 E scope f c') (fun cls d _ H' => E cls d H') body fb)
    (he : starEach (e :: es) X.env = (false, eval e X.env) :: starEach es X.env) (hpl : (backTo pos (starEach es X.env)).any (·.1) = false) :
    PM A X W (.Call (.Name x pn) (e :: es) [] pos) (eCallL v j (n + 1) (lamM fb bs ps.length) ps.length fa) := by
  refine ⟨fun pins s σ H Q I ⟨m, ρ, st, r, w, k⟩ => ?_⟩
  unfold eCallL at k
  cases hok : v.ok with
  | false => rw [hok] at k; exact k.elim
  | true =>
  rw [hok] at k
  simp only [if_true] at k
  obtain ⟨lb, hlb, low⟩ := G.low hok
  refine wpAny_Call_Name_kw (ld_glob I hg hm ?_ hdb)
  refine PySem.W.callWith_K (h₀ := X.base) I.ok.mod.kin hk ?_ he hpl
  refine wpAny_mono (ha pos pins s σ H m ρ st _ Q I r w k) (fun us s1 ⟨hl, h⟩ => ?_) fun _ _ z => z
  obtain ⟨f, c', pm, ctv, H1, m1, st1, xs, vs, ws, eu, e1, J, r1, v1, hx, hw, la, k1⟩ := h.ex
  refine ⟨J.kIn, ?_⟩
  subst eu
  obtain ⟨gw, F', e0, rA⟩ := clo_world G hj low J DL r1 v1 la hbody
  have hlen : (ws ++ [Value.ref f]).length = d.ps.length := by rw [hl, hd]
  have hlw : ws.length = n := by simpa using hl
  have hlx : xs.length = n := by rw [hx.length, Paired.length hw]; exact hlw
  have bt := G.gd.bnd j d hj s1 (ws ++ [.ref f]) J.kIn (by rw [List.append_nil]; exact hlen)
  rw [List.append_nil] at bt
  have hn : ∀ i a, A.fa i = some a → i ≠ v.n := fun i a z => Nat.ne_of_lt (G.hn i a z)
  refine run_gB F' (G.gd.room.mono (Nat.le_succ l)) G.gd.gd G.gd.tk J e0 bt (hw.append (.cons (show RelV (V.ref f) (Value.ref f) from rfl) .nil)) ⟨by rw [List.length_append, List.length_singleton, ← hx.length, hlx, hd], m1, st1, xs ++ [.fn v.n], rA, ?_, ?_⟩
  · refine RVs.append (RVs.cg (c := gc A X) (c' := gcA (grAD A v.n f m1 H1) X.prog X.w X.K X.mg (grBase X s1 H1)) rfl (fun i a z => ?_) (fun i a z => z) hx) (.cons (.fn ?_) .nil)
    · show (if i = v.n then some f else A.fa i) = some a
      rw [if_neg (hn i a z)]; exact z
    · show (if v.n = v.n then some f else A.fa v.n) = some f
      rw [if_pos rfl]
  · refine Run.wish (W := W) (Run.lv (c := gcA (grAD A v.n f m1 H1) X.prog X.w X.K X.mg (grBase X s1 H1)) (c' := gc A X) (n := v.n) rfl G.hn (fun i a hi z => ?_) (fun i a z => z) rfl r1 k1) fun _ _ _ z => z
    have z : (if i = v.n then some f else A.fa i) = some a := z
    rw [if_neg (Nat.ne_of_lt hi)] at z
    exact z
end
end CS
namespace CS
open PySem PySem.Spec PyProof.Rows L2 LamX
abbrev IP := Int × Int
def leP (p q : IP) : Bool := decide (p.1 < q.1) || (decide (p.1 = q.1) && decide (p.2 ≤ q.2))
def eqSt : Sto → Sto → Bool
  | [], [] => true
  | a :: as, b :: bs => eqO a b && eqSt as bs
  | _, _ => false
theorem eqSt_refl : ∀ s : Sto, eqSt s s = true
  | [] => rfl
  | a :: as => by unfold eqSt; rw [eqO_refl, eqSt_refl as]; rfl
theorem eqSt_of : ∀ {s t : Sto}, eqSt s t = true → s = t
  | [], [], _ => rfl
  | [], _ :: _, h => by unfold eqSt at h; cases h
  | _ :: _, [], h => by unfold eqSt at h; cases h
  | a :: as, b :: bs, h => by
    unfold eqSt at h
    rw [Bool.and_eq_true] at h
    rw [eqO_of h.1, eqSt_of h.2]
def pairOf (r : R MV) (st : Sto) : Option IP := match r with
  | some (.ok (.tup [.int a, .int b]), st') => if eqSt st' st then some (a, b) else none
  | _ => none
def keysM (g : Fn) (st : Sto) : List MV → Option (List IP)
  | [] => some []
  | x :: xs => match pairOf (g [x] st) st, keysM g st xs with
    | some k, some ks => some (k :: ks)
    | _, _ => none
def sortP (xs : List MV) (ks : List IP) : List MV := ((xs.zip ks).mergeSort fun p q => leP p.2 q.2).map (·.1)
theorem keysM_len {g : Fn} {st : Sto} : ∀ {xs : List MV} {ks : List IP}, keysM g st xs = some ks → ks.length = xs.length
  | [], ks, h => by cases h; rfl
  | x :: xs, ks, h => by
    unfold keysM at h
    split at h
    · rename_i k ks' _ h2
      cases h
      rw [List.length_cons, List.length_cons, keysM_len h2]
    · cases h
theorem keysM_at {g : Fn} {st : Sto} : ∀ {xs : List MV} {ks : List IP} {i : Nat} {x : MV}, keysM g st xs = some ks → xs[i]? = some x → ∃ k, ks[i]? = some k ∧ g [x] st = some (.ok (.tup [.int k.1, .int k.2]), st)
  | [], ks, i, x, h, hx => by simp at hx
  | y :: xs, ks, i, x, h, hx => by
    unfold keysM at h
    split at h
    · rename_i k ks' h1 h2
      cases h
      cases i with
      | zero =>
        simp at hx
        subst hx
        refine ⟨k, by simp, ?_⟩
        unfold pairOf at h1
        split at h1
        · rename_i a b st' e
          split at h1
          · rename_i q
            cases h1
            rw [e, eqSt_of q]
          · cases h1
        · cases h1
      | succ i =>
        obtain ⟨k2, e1, e2⟩ := keysM_at h2 (i := i) (x := x) (by simpa using hx)
        exact ⟨k2, by simpa using e1, e2⟩
    · cases h
def kd (k : IP) : PyData := .tuple [.int k.1, .int k.2]
theorem dataLe_kd {β : Type} (f : β → IP) (x y : β) : PySem.W.dataLe false (fun b => kd (f b)) x y = leP (f x) (f y) := by
  show (!PyProof.Rows.lexLt PyProof.Rows.itemOrd (PySem.W.keyToks (kd (f y))) (PySem.W.keyToks (kd (f x)))) = _
  unfold kd leP
  simp only [PySem.W.keyToks, PySem.W.keyToksAll, PyProof.Rows.lexLt, PyProof.Rows.itemLt, List.singleton_append, List.cons_append, List.nil_append]
  generalize (f x).1 = a
  generalize (f x).2 = b
  generalize (f y).1 = c
  generalize (f y).2 = d
  rcases Int.lt_trichotomy a c with h | h | h
  · have h1 : ¬ c < a := by omega
    simp [h, h1]
  · subst h
    by_cases h2 : d < b
    · have h3 : ¬ b ≤ d := by omega
      have h4 : ¬ b < d := by omega
      simp [h2, h3, h4]
    · have h3 : b ≤ d := by omega
      simp [h2, h3]
  · have h1 : ¬ a < c := by omega
    have h2 : ¬ a = c := by omega
    simp [h, h1, h2]
end CS
namespace CS
open PySem PySem.Spec PyProof.Rows L2 LamX
structure SrtI (X : Cx) (c : GC) (s1 : Shared) (H1 : Hp) (m1 : List Addr) (st1 : Sto) (kS a : Addr) (e1 : Nat) (ks : List IP) (i : Nat) (s' : Shared) (Hi : Hp) (kA : Array Value) (en : Nat) : Prop where
  un : Un (frs X.stack) [] H1 Hi s1.heap s'.heap
  hok : HOk X.prog X.w Hi s'.heap
  os : s'.os = s1.os
  bare : AllBare s'.gens
  ext : Ext c m1 H1 m1 Hi
  rel : Rel c m1 st1 Hi
  gk : s'.heap.get? kS = some (seqObj "list" kA en)
  ga : s'.heap.get? a = some (seqObj "list" #[] e1)
  nk : Hi kS = none
  na : Hi a = none
  each : PySem.W.EachIs (fun v (k : IP) => ∃ t, v = Value.ref t ∧ SqD X.K Hi t [.int k.1, .int k.2]) kA.toList (ks.take i)
theorem reads_kd {X : Cx} {Hi : Hp} {h : Heap} (hK : X.K.In h) (hok : HOk X.prog X.w Hi h) {t : Addr} {k : IP} (q : SqT X.K Hi t [.int k.1, .int k.2]) : Reads h (.ref t) (kd k) [] := by
  have go : ∀ its : List Value, Vals [V.int k.1, V.int k.2] its → IsTup h t its.toArray → Reads h (.ref t) (kd k) [] := fun its r ⟨o, ho, hc, n, hd⟩ => by
    obtain ⟨u1, u2, rfl, ⟨t1, rfl⟩, ⟨t2, rfl⟩⟩ := vals2 r
    refine Reads.tuple ho hc hd ?_
    exact ReadsAll.cons (as := []) (bs := []) (.int _ _) (ReadsAll.cons (as := []) (bs := []) (.int _ _) .nil)
  rcases q with q | ⟨o, its, n, hk, hc, hs, hz, r⟩
  · obtain ⟨z, its, r, p⟩ := q.ok hok
    exact go its r p
  · exact go its.toList r ⟨o, hK t o hk, hc, n, by simpa using hs⟩
section
variable {X : Cx} {pins : List (Addr × Obj)} {σ : L2.St} {s1 : Shared} {H1 : Hp} {c : GC} {m1 : List Addr} {st1 : Sto} {kS a : Addr} {e1 : Nat} {ks : List IP}
theorem SrtI.inv {i : Nat} {s' : Shared} {Hi : Hp} {kA : Array Value} {en : Nat} (S : SrtI X c s1 H1 m1 st1 kS a e1 ks i s' Hi kA en) (I : Inv X pins σ H1 s1) : Inv X pins σ Hi s' := by
  obtain ⟨v, H', J, _, q⟩ := I.after (Q := fun _ H' => H' = Hi) (u := .none) ⟨.non, Hi, S.os, S.bare, S.un, S.hok, rfl, rfl⟩
  rw [q] at J
  exact J
theorem fr_lt (I : Inv X pins σ H1 s1) {b : Addr} (h : s1.heap.objs.size ≤ b) : b ∉ frs X.stack := fun hm => by
  obtain ⟨_, o, e, _⟩ := I.stack.mem hm
  exact Nat.lt_irrefl _ (Nat.lt_of_lt_of_le (Heap.lt_size e) h)
theorem srt_step {A' : AD} {base' : Heap} {f : Addr} {g : Fn} {l : Nat} {B : Around} {i : Nat} {s' : Shared} {Hi : Hp} {kA : Array Value} {en : Nat} {w : V} {u : Value} {x : MV} {k : IP} (I : Inv X pins σ H1 s1) (hc : c = gcA A' X.prog X.w X.K X.mg base') (cg : CloG X.prog X.w X.K X.mg base' A' l f 1 g)
    (sB : SubB X B) (hr : Room (l + 1) X.A) (hg : X.A.guards = some []) (hmod : Mod X.K X.mg base') (hbs : ∀ b o, base'.get? b = some o → s1.heap.get? b = some o ∧ H1 b = none ∧ b ∉ frs X.stack) (hbz : base'.objs.size ≤ s1.heap.objs.size) (hfr : ∀ L ∈ frs X.stack, base'.get? L = none)
    (hkS : s1.heap.objs.size ≤ kS) (ha : s1.heap.objs.size ≤ a) (hka : kS ≠ a) (hkz : kA.size ≤ sizeLine) (S : SrtI X c s1 H1 m1 st1 kS a e1 ks i s' Hi kA en) (hki : ks[i]? = some k) (hx : RV c m1 H1 x w) (hw : RelV w u) (hgx : g [x] st1 = some (.ok (.tup [.int k.1, .int k.2]), st1)) :
    wpAny (model X.prog X.w) B (call (.ref f) [u]) (fun v s2 => ∀ (Q : Unit → Shared → Prop), (∀ s3 Hn en', SrtI X c s1 H1 m1 st1 kS a e1 ks (i + 1) s3 Hn (kA.push v) en' → Q () s3) → ∀ E, wpAny (model X.prog X.w) B (Builtin.List.listUpdate (.ref kS) (·.push v)) Q E s2) (fun _ _ => False) s' := by
  have J := S.inv I
  obtain ⟨fd, ps, hp, F, hb, _⟩ := cg.ex
  have e0 : Env0 X.prog X.w X.K X.mg base' B X.stack s' Hi := by
    have e := J.env0
    refine ⟨by rw [sB.fr]; exact e.frames, hmod, fun b o z => ?_, ?_, funFrames_none e.funs hfr, e.frf, e.hok, e.bare⟩
    · obtain ⟨z1, z2, z3⟩ := hbs b o z
      exact ⟨S.un.keep b o z1 z2 z3 (by simp), S.un.free b o z1 z2 (by simp)⟩
    · exact Nat.le_trans hbz (Nat.le_trans hkS (Nat.le_of_lt (Heap.lt_size S.gk)))
  have bd := hb s' [u] J.kIn (by rw [List.append_nil, hp]; rfl)
  rw [List.append_nil] at bd
  have hgc : RVs c m1 Hi [x] [w] := .cons (hx.mono S.ext) .nil
  subst hc
  have run : Run (gcA A' X.prog X.w X.K X.mg base') (fun cls d _ H' => (fun _ _ _ => False : XK) cls d H') [] m1 Hi (g [x] st1) (kV (gcA A' X.prog X.w X.K X.mg base') fun u H' => Ext (gcA A' X.prog X.w X.K X.mg base') m1 Hi m1 H' ∧ Rel (gcA A' X.prog X.w X.K X.mg base') m1 st1 H' ∧ RV (gcA A' X.prog X.w X.K X.mg base') m1 H' (.tup [.int k.1, .int k.2]) u) := by
    rw [hgx]
    intro m' H' e r u hu
    have em : m' = m1 := by
      obtain ⟨t, et⟩ := e.pre
      have hl := congrArg List.length et
      rw [List.length_append, r.len, S.rel.len] at hl
      have : t = [] := List.eq_nil_of_length_eq_zero (by omega)
      rw [et, this, List.append_nil]
    subst em
    exact ⟨e, r, hu⟩
  refine wpAny_call (codeAny_mono (F.run B X.stack s' Hi ⟨[u], []⟩ [u] [w] _ (fun _ _ _ => False) (sB.room hr) (sB.gd.trans hg) e0 bd (.cons hw .nil) ⟨by rw [hp]; rfl, m1, st1, [x], S.rel, hgc, run⟩) fun res s2 hq => ?_)
  match res, hq with
  | .error e, hq =>
    obtain ⟨_, _, _, _, _, _, _, _, _, _, _, _, z⟩ := hq
    exact z.elim
  | .ok .next, hq => exact hq.elim
  | .ok .brk, hq => exact hq.elim
  | .ok .cont, hq => exact hq.elim
  | .ok (.ret v), hq =>
    obtain ⟨y, H', os, bare, un, hok, rv, e2, r2, hy⟩ := hq
    have nfk := fr_lt I hkS
    have nfa := fr_lt I ha
    have gk := un.keep kS _ S.gk S.nk nfk (by simp)
    have ga := un.keep a _ S.ga S.na nfa (by simp)
    have nk := un.free kS _ S.gk S.nk (by simp)
    have na := un.free a _ S.ga S.na (by simp)
    intro Q hQ E
    obtain ⟨c2, hc2⟩ : ∃ c2, (s2.heap.update kS (Obj.mapSeq (·.push v))).get? kS = some (seqObj "list" (kA.push v) c2) := ⟨_, get?_update_seq gk (·.push v)⟩
    have sm := Heap.SameBut.update s2.heap kS (Obj.mapSeq (·.push v))
    refine listUpdate_at gk rfl (hQ _ H' c2 ?_) hkz (by rw [Array.size_push]; omega)
    have u2 := S.un.trans un
    refine ⟨⟨fun b o z1 z2 z3 z4 => ?_, fun b o z1 z2 z3 z4 => ?_, u2.free, fun b o z1 z4 => ?_, u2.tups, u2.frzs, u2.tbls⟩, fun b ob z => ?_, os.trans S.os, bare, S.ext.trans e2, r2, hc2, (sm.2 a hka.symm).trans ga, nk, na, ?_⟩
    · have ne : b ≠ kS := Nat.ne_of_lt (Nat.lt_of_lt_of_le (Heap.lt_size z1) hkS)
      exact (sm.2 b ne).trans (u2.keep b o z1 z2 z3 z4)
    · have ne : b ≠ kS := Nat.ne_of_lt (Nat.lt_of_lt_of_le (Heap.lt_size z1) hkS)
      obtain ⟨sl, z5⟩ := u2.slot b o z1 z2 z3 z4
      exact ⟨sl, (sm.2 b ne).trans z5⟩
    · have ne : b ≠ kS := Nat.ne_of_lt (Nat.lt_of_lt_of_le (Heap.lt_size z1) hkS)
      obtain ⟨o', z5⟩ := u2.there b o z1 z4
      exact ⟨o', (sm.2 b ne).trans z5⟩
    · refine (hok b ob z).stay (fun d u hd z5 => (sm.2 d ?_).trans z5) (fun d z5 => z5) fun d xs z5 => z5
      intro z6
      subst z6
      rcases hd with hd | hd
      · rw [← hd, nk] at z; cases z
      · rw [nk] at hd; cases hd
    · have ek : ks.take (i + 1) = ks.take i ++ [k] := by rw [List.take_add_one, hki]; simp
      rw [ek, Array.toList_push]
      refine PySem.W.each_snoc (R := fun v (k : IP) => ∃ t, v = Value.ref t ∧ SqD X.K H' t [.int k.1, .int k.2]) ?_ (S.each.mono fun v k ⟨t, h1, h2⟩ => ⟨t, h1, e2.tup t _ h2⟩)
      cases hy with
      | @tup t _ vs hs hv =>
        obtain rfl : v = Value.ref t := rv
        cases hv with
        | cons h1 hv =>
          cases h1
          cases hv with
          | cons h2 hv =>
            cases h2
            cases hv
            exact ⟨t, rfl, hs⟩
theorem srt_end {B : Around} {s' : Shared} {Hi : Hp} {kA : Array Value} {en : Nat} {vs : List Value} {ws : List V} {xs : List MV} {P : PySem.Fin → Shared → Prop} {E : Value → Shared → Prop} (I : Inv X pins σ H1 s1) (hu : B.units + 10 < cLine) (hkS : s1.heap.objs.size ≤ kS) (ha : s1.heap.objs.size ≤ a) (hka : kS ≠ a) (hK : X.K = c.K)
    (S : SrtI X c s1 H1 m1 st1 kS a e1 ks ks.length s' Hi kA en) (hv : Vals ws vs) (hx : RVs c m1 H1 xs ws) (hl : ks.length = xs.length) (hz : xs.length ≤ sizeLine)
    (h : ∀ (s2 : Shared) (H2 : Hp), Inv X pins σ H2 s2 → Ext c m1 H1 (m1 ++ [a]) H2 → Rel c (m1 ++ [a]) (st1 ++ [.lst (sortP xs ks)]) H2 → P (.done (.ret .none)) s2) :
    wpAny (model X.prog X.w) B (PyProof.Rows.ksk_end a false vs.toArray e1 (.ref kS) kA) P E s' := by
  have hK' : X.K.In s'.heap := (S.inv I).kIn
  have lks : ks.take ks.length = ks := List.take_length
  have ev := S.each
  rw [lks] at ev
  have lk : kA.toList.length = ks.length := ev.length
  have lv : vs.length = xs.length := by rw [← hv.length, ← hx.length]
  have rd : PySem.W.EachIs (fun v d => ∃ as, Reads s'.heap v d as) kA.toList (ks.map kd) := by
    have : ∀ {l1 : List Value} {l2 : List IP}, PySem.W.EachIs (fun v (k : IP) => ∃ t, v = Value.ref t ∧ SqD X.K Hi t [.int k.1, .int k.2]) l1 l2 → PySem.W.EachIs (fun v d => ∃ as, Reads s'.heap v d as) l1 (l2.map kd) := by
      intro l1 l2 e
      induction e with
      | nil => exact .nil
      | cons h _ ih =>
        obtain ⟨t, rfl, q⟩ := h
        exact .cons ⟨[], reads_kd hK' S.hok q.toT⟩ ih
    exact this ev
  have hal : PySem.W.AllAlike (ks.map kd) := fun d h1 d' h2 => by
    obtain ⟨k1, _, rfl⟩ := List.mem_map.mp h1
    obtain ⟨k2, _, rfl⟩ := List.mem_map.mp h2
    simp [kd, PySem.W.alike, PySem.W.alikeAll]
  have hsk : PySem.W.Sortable (ks.map kd) := .inl fun d h1 => by
    obtain ⟨k1, _, rfl⟩ := List.mem_map.mp h1
    exact ⟨_, _, rfl⟩
  have hub : ∀ d, d ∈ ks.map kd → B.units + d.depth < cLine := fun d h1 => by
    obtain ⟨k1, _, rfl⟩ := List.mem_map.mp h1
    have : (kd k1).depth ≤ 10 := by simp [kd, PyData.depth, PyData.depthAll]
    omega
  have kp : PySem.W.KeepsBut a (PySem.W.hideAll s'.heap [kS]) s'.heap := fun b o _ e => PySem.W.of_hideAll _ e
  refine PySem.W.keyH_end (κ := PySem.W.dataKind s'.heap (ks.map kd)) kp (PySem.W.hideAll_none [kS] (by simp)) S.gk S.ga hka (PySem.W.SortsAt.data rd hal hsk hub) (by rw [← Array.length_toList, lk, hl, lv]) (by rw [lv]; exact hz) fun h' tk c2 k2 n2 => ?_
  -- the items with their values and keys
  have each : ∀ {xs : List MV} {ws : List V} {vs : List Value} {ks : List IP}, RVs c m1 H1 xs ws → Vals ws vs → ks.length = xs.length →
      ∃ T : List (MV × V × IP), T.map (fun t => t.1) = xs ∧ T.map (fun t => (t.1, t.2.2)) = xs.zip ks ∧ T.map (fun t => kd t.2.2) = ks.map kd ∧ PySem.W.EachIs (fun v (t : MV × V × IP) => RelV t.2.1 v ∧ RV c m1 H1 t.1 t.2.1) vs T := by
    intro xs ws vs ks h1 h2 h3
    induction vs generalizing xs ws ks with
    | nil =>
      cases h2
      cases h1
      cases ks with
      | nil => exact ⟨[], rfl, rfl, rfl, .nil⟩
      | cons _ _ => simp at h3
    | cons v vs ih =>
      cases h2 with
      | cons r2 h2 =>
        cases h1 with
        | @cons x w' xs ws r1 h1 =>
          cases ks with
          | nil => simp at h3
          | cons k ks =>
            obtain ⟨T, e1, e2, e3, e4⟩ := ih h1 h2 (by simpa using h3)
            exact ⟨(_, _, k) :: T, by rw [List.map_cons, e1], by rw [List.map_cons, e2]; rfl, by rw [List.map_cons, e3]; rfl, .cons ⟨r2, r1⟩ e4⟩
  obtain ⟨T, t1, t2, t3, t4⟩ := each hx hv hl
  have ko : PySem.W.KeyedOut false (T.map fun t => kd t.2.2) vs (PySem.W.sortVals (PySem.W.dataKind s'.heap (ks.map kd)) false kA.toList vs) := ⟨s'.heap, kA.toList, by rw [t3]; exact hal, by rw [t3], by rw [t3]; exact rd⟩
  have out := PySem.W.keyedOut_each (fun t : MV × V × IP => kd t.2.2) ko t4
  generalize hout : PySem.W.sortVals (PySem.W.dataKind s'.heap (ks.map kd)) false kA.toList vs = ovs at out n2
  generalize hsort : T.mergeSort (PySem.W.dataLe false fun t : MV × V × IP => kd t.2.2) = T' at out
  have sp : T'.map (fun t => t.1) = sortP xs ks := by
    unfold sortP
    rw [← t2, ← List.map_mergeSort (r := fun x y => leP x.2.2 y.2.2), List.map_map]
    · have : T' = T.mergeSort fun x y => leP x.2.2 y.2.2 := by
        rw [← hsort]
        congr 1
        funext x y
        exact dataLe_kd (fun t : MV × V × IP => t.2.2) x y
      rw [this]
      rfl
    · intro x _ y _
      rfl
  have two : RVs c m1 H1 (T'.map fun t => t.1) (T'.map fun t => t.2.1) ∧ Vals (T'.map fun t => t.2.1) ovs := by
    have : ∀ {l1 : List Value} {l2 : List (MV × V × IP)}, PySem.W.EachIs (fun v (t : MV × V × IP) => RelV t.2.1 v ∧ RV c m1 H1 t.1 t.2.1) l1 l2 → RVs c m1 H1 (l2.map fun t => t.1) (l2.map fun t => t.2.1) ∧ Vals (l2.map fun t => t.2.1) l1 := by
      intro l1 l2 e
      induction e with
      | nil => exact ⟨.nil, .nil⟩
      | cons h _ ih => exact ⟨.cons h.2 ih.1, .cons h.1 ih.2⟩
    exact this out
  rw [sp] at two
  have lo : (sortP xs ks).length = xs.length := by
    unfold sortP
    rw [List.length_map, List.length_mergeSort, List.length_zip, hl, Nat.min_self]
  let H2 : Hp := upd Hi a (.lst (T'.map fun t => t.2.1))
  have keep : ∀ b o, b ≠ a → b ≠ kS → s'.heap.get? b = some o → h'.get? b = some o := fun b o n1 n3 z => k2 b o n1 (PySem.W.hideAll_get [kS] z (by simpa using n3))
  have old : ∀ b o, s1.heap.get? b = some o → b ≠ a ∧ b ≠ kS := fun b o z => ⟨Nat.ne_of_lt (Nat.lt_of_lt_of_le (Heap.lt_size z) ha), Nat.ne_of_lt (Nat.lt_of_lt_of_le (Heap.lt_size z) hkS)⟩
  have hok2 : HOk X.prog X.w H2 h' := fun b ob z => by
    by_cases hb : b = a
    · subst hb
      rw [show H2 b = _ from upd_same] at z
      cases z
      exact ⟨by rw [← two.1.length, lo]; exact hz, ovs, c2, two.2, n2⟩
    · rw [show H2 b = Hi b from upd_ne hb] at z
      refine (S.hok b ob z).stay (fun d u hd z5 => ?_) (fun d z5 => ?_) fun d xs z5 => ?_
      · refine keep d u (fun z6 => ?_) (fun z6 => ?_) z5
        · subst z6
          rcases hd with hd | hd
          · exact hb hd.symm
          · rw [S.na] at hd; cases hd
        · subst z6
          rcases hd with hd | hd
          · rw [← hd, S.nk] at z; cases z
          · rw [S.nk] at hd; cases hd
      · exact (upd_ne (ne_of_none z5 S.na)).trans z5
      · exact (upd_ne (ne_of_none z5 S.na)).trans z5
  have un2 : Un (frs X.stack) [] H1 H2 s1.heap h' := by
    have u := S.un
    refine ⟨fun b o z1 z2 z3 z4 => ?_, fun b o z1 z2 z3 z4 => ?_, fun b o z1 z2 z4 => ?_, fun b o z1 z4 => ?_, fun b xs z => ?_, fun b o v z => ?_, fun b ps z => ?_⟩
    · exact keep b o (old b o z1).1 (old b o z1).2 (u.keep b o z1 z2 z3 z4)
    · obtain ⟨sl, z5⟩ := u.slot b o z1 z2 z3 z4
      exact ⟨sl, keep b _ (old b o z1).1 (old b o z1).2 z5⟩
    · exact (upd_ne (old b o z1).1).trans (u.free b o z1 z2 z4)
    · obtain ⟨o', z5⟩ := u.there b o z1 z4
      exact ⟨o', keep b _ (old b o z1).1 (old b o z1).2 z5⟩
    · have := u.tups b xs z
      exact (upd_ne (ne_of_none this S.na)).trans this
    · have := u.frzs b o v z
      exact (upd_ne (ne_of_none this S.na)).trans this
    · obtain ⟨more, this⟩ := u.tbls b ps z
      exact ⟨more, (upd_ne (ne_of_none this S.na)).trans this⟩
  obtain ⟨v, H', J, _, q⟩ := I.after (Q := fun _ H' => H' = H2) (u := .none) (s' := { s' with heap := h', toks := tk }) ⟨.non, H2, S.os, S.bare, un2, hok2, rfl, rfl⟩
  rw [q] at J
  have gr := S.rel.grow (H' := H2) (p := a) (o := .lst (sortP xs ks)) S.na (fun b o z => (upd_ne (ne_of_none z S.na)).trans z) ⟨_, upd_same, (two.1.mono S.ext).mono (Ext.grow S.na fun b o z => (upd_ne (ne_of_none z S.na)).trans z)⟩
  exact h _ H2 J (S.ext.trans gr.2) gr.1
end
end CS
namespace CS
open PySem PySem.Spec PyProof.Rows L2 LamX
section
variable {X : Cx} {pins : List (Addr × Obj)} {σ : L2.St} {s1 : Shared} {H1 : Hp} {c : GC} {m1 : List Addr} {st1 : Sto} {ks : List IP} {A' : AD} {base' : Heap} {f lq : Addr} {g : Fn} {l : Nat} {ws : List V} {xs : List MV} {Q : VK}
theorem sort_run (I : Inv X pins σ H1 s1) (hc : c = gcA A' X.prog X.w X.K X.mg base') (cg : CloG X.prog X.w X.K X.mg base' A' l f 1 g) (hr : Room (l + 1) X.A) (hg : X.A.guards = some []) (hmod : Mod X.K X.mg base') (hbs : ∀ b o, base'.get? b = some o → s1.heap.get? b = some o ∧ H1 b = none ∧ b ∉ frs X.stack)
    (hbz : base'.objs.size ≤ s1.heap.objs.size) (hfr : ∀ L ∈ frs X.stack, base'.get? L = none) (hsq : SqL X.K H1 lq ws ∨ SqT X.K H1 lq ws) (hx : RVs c m1 H1 xs ws) (rel : Rel c m1 st1 H1) (hk : keysM g st1 xs = some ks) (hz : xs.length ≤ sizeLine)
    (hsf : s1.heap.objs.size = f + 1) (hf : ∃ o, s1.heap.get? f = some o) (q : ∀ m' H', Ext c m1 H1 m' H' → Rel c m' (st1 ++ [.lst (sortP xs ks)]) H' → ∀ u, RV c m' H' (.ref st1.length) u → Q u H') :
    wpAny (model X.prog X.w) X.A (call (.builtin "sorted") [.ref lq] [(Str.ofString "key", .ref f)]) (EP X pins σ Q) X.xe s1 := by
  have hlen : ks.length = xs.length := keysM_len hk
  -- the items
  obtain ⟨T, o, items, n, hT, ho, hcl, hd, hv, hsz⟩ : ∃ (T : String) (o : Obj) (items : Array Value) (n : Nat), (T = "list" ∨ T = "tuple") ∧ s1.heap.get? lq = some o ∧ o.cls = .type T ∧ o.data = .seq items n ∧ Vals ws items.toList ∧ items.size ≤ sizeLine := by
    rcases hsq with h | h
    · obtain ⟨its, rv, ⟨o, n, e, h1, h2, h3⟩, hz2⟩ := I.list h
      exact ⟨"list", o, its.toArray, n, .inl rfl, e, h1, h3, by simpa using rv, by rw [List.size_toArray, ← rv.length]; exact hz2⟩
    · obtain ⟨its, rv, ⟨o, e, h1, n, h3⟩, hz2⟩ := I.tuple h
      exact ⟨"tuple", o, its.toArray, n, .inr rfl, e, h1, h3, by simpa using rv, by rw [List.size_toArray, ← rv.length]; exact hz2⟩
  have hvl : items.toList.length = xs.length := by rw [← hv.length, ← hx.length]
  refine call_function_entry_kw kind_sorted plain_sorted entry_sorted (ksk_s1 _ _) ?_
  unfold Builtin.«sorted»
  refine wpAny_bind (m := checkCount "sorted" 1 1 _) (wpAny_pure (wpAny_bind (wpAny_collect_seq lq hT ho hcl hd (fun h1 kp1 => ?_) hsz)))
  refine wpAny_bind (wpAny_newList ?_ (by rw [hvl]; exact hz))
  have sz1 : s1.heap.objs.size ≤ h1.objs.size := by
    obtain ⟨o2, ho2⟩ := hf
    rw [hsf]
    exact Heap.lt_size (kp1 _ _ ho2)
  have ha : s1.heap.objs.size ≤ h1.objs.size := sz1
  have hoA : (h1.push (seqObj "list" items.toList.toArray 0)).get? h1.objs.size = some (seqObj "list" items.toList.toArray 0) := Heap.get?_push_size _ rfl
  have szA : (h1.push (seqObj "list" items.toList.toArray 0)).objs.size = h1.objs.size + 1 := Heap.size_push _ _
  refine wpAny_bind (wpAny_holding (wpAny_call_entry_kw slot_list_sort ⟨_, hoA, rfl⟩ entry_list_sort ?_ (ksk_l1 _ _)))
  rw [ksk_t1]
  unfold ksk_tree
  have hlz : items.toList.toArray.size ≤ sizeLine := by rw [List.size_toArray, hvl]; exact hz
  refine wpAny_bind (listItems_at hoA rfl (wpAny_bind (listUpdate_at hoA rfl ?_ hlz (Nat.zero_le _))))
  obtain ⟨eB, hoB⟩ : ∃ eB, ((h1.push (seqObj "list" items.toList.toArray 0)).update h1.objs.size (Obj.mapSeq fun _ => (#[] : Array Value))).get? h1.objs.size = some (seqObj "list" #[] eB) := ⟨_, get?_update_seq hoA fun _ => #[]⟩
  refine wpAny_bind (seqEpoch_at hoB rfl (wpAny_bind (wpAny_newTuple ?_ (by simpa using hlz))))
  refine wpAny_bind (wpAny_newList (wpAny_holding ?_) (Nat.zero_le _))
  have szB : ((h1.push (seqObj "list" items.toList.toArray 0)).update h1.objs.size (Obj.mapSeq fun _ => (#[] : Array Value))).objs.size = h1.objs.size + 1 := by rw [Heap.size_update, szA]
  generalize hhB : (h1.push (seqObj "list" items.toList.toArray 0)).update h1.objs.size (Obj.mapSeq fun _ => (#[] : Array Value)) = hB at hoB szB
  have keepB : ∀ b o, s1.heap.get? b = some o → hB.get? b = some o := fun b o e => by
    have e2 := kp1 b o e
    have ne : b ≠ h1.objs.size := Nat.ne_of_lt (Heap.lt_size e2)
    rw [← hhB, Heap.get?_update_ne _ _ _ _ ne]
    exact Heap.get?_push_of_some _ e2
  have szC : (hB.push { cls := .type "tuple", data := .seq items.toList.toArray.toList.toArray }).objs.size = h1.objs.size + 2 := by rw [Heap.size_push, szB]
  have keepC : ∀ b o, s1.heap.get? b = some o → ((hB.push { cls := .type "tuple", data := .seq items.toList.toArray.toList.toArray }).push { cls := .type "list", data := .seq ([] : List Value).toArray }).get? b = some o := fun b o e => Heap.get?_push_of_some _ (Heap.get?_push_of_some _ (keepB b o e))
  have S0 : SrtI X c s1 H1 m1 st1 (hB.push { cls := .type "tuple", data := .seq items.toList.toArray.toList.toArray }).objs.size h1.objs.size eB ks 0 { s1 with heap := (hB.push { cls := .type "tuple", data := .seq items.toList.toArray.toList.toArray }).push { cls := .type "list", data := .seq ([] : List Value).toArray } } H1 #[] 0 :=
    ⟨Un.kept keepC, I.hok.kept keepC, rfl, I.bare, .refl, rel, Heap.get?_push_size _ rfl, Heap.get?_push_of_some _ (Heap.get?_push_of_some _ hoB), I.hok.fresh (by rw [szC]; omega), I.hok.fresh ha, by rw [List.take_zero]; exact .nil⟩
  generalize hkS : (hB.push { cls := .type "tuple", data := .seq items.toList.toArray.toList.toArray }).objs.size = kS at S0
  have hkS1 : s1.heap.objs.size ≤ kS := by rw [← hkS, szC]; omega
  have hka : kS ≠ h1.objs.size := by rw [← hkS, szC]; omega
  have sB : SubB X X.A.in1.in1 := ⟨rfl, rfl, rfl, Nat.le_add_right _ _, by show X.A.units + 1 + 1 ≤ X.A.units + 16; omega⟩
  unfold ksk_rest
  refine wpAny_bind (wpAny_rule ?_)
  rw [List.forIn_toArray]
  refine wpAny_bind (ksk_fold (fun i s' => ∃ Hi kA en, kA.size ≤ i ∧ SrtI X c s1 H1 m1 st1 kS h1.objs.size eB ks i s' Hi kA en) items.toList 0 _ ⟨H1, #[], 0, Nat.le_refl _, S0⟩ ?step ?done)
  case step =>
    rintro j u s' hu ⟨Hi, kA, en, hkA, S⟩
    simp only [Nat.zero_add] at hkA S ⊢
    have hj : j < items.toList.length := (List.getElem?_eq_some_iff.mp hu).1
    obtain ⟨w, hw, ru⟩ : ∃ w, ws[j]? = some w ∧ RelV w u := by
      have hjw : j < ws.length := by rw [hv.length]; exact hj
      obtain ⟨u2, h2, r2⟩ := hv.get (i := j) (x := ws[j]) (by simp [hjw])
      rw [hu] at h2
      cases h2
      exact ⟨ws[j], by simp [hjw], r2⟩
    obtain ⟨x, hxj, rx⟩ := hx.get hw
    obtain ⟨k, hkj, hgx⟩ := keysM_at hk hxj
    refine wpAny_bind (wpAny_attempt (wpAny_mono (srt_step I hc cg sB hr hg hmod hbs hbz hfr hkS1 ha hka (by omega) S hkj rx ru hgx) (fun v s2 hq => ?_) fun _ _ z => z.elim))
    exact wpAny_bind (hq _ (fun s3 Hn en' S' => wpAny_pure ⟨rfl, Hn, _, en', by rw [Array.size_push]; omega, S'⟩) _)
  case done =>
    rintro s' ⟨Hi, kA, en, hkA, S⟩
    rw [Nat.zero_add, hvl, ← hlen] at S
    refine wpAny_bind (listItems_at S.gk rfl ?_)
    have hu := hr.un
    refine srt_end (vs := items.toList) I (by show X.A.units + 1 + 1 + 10 < cLine; omega) hkS1 ha hka (by rw [hc]) S hv hx hlen hz fun s2 H2 J e2 r2 => ⟨_, rfl, ?_⟩
    refine wpAny_pure ⟨_, rfl, .ref h1.objs.size, H2, J, rfl, q _ H2 e2 r2 _ (.ref ?_)⟩
    rw [← rel.len]
    simp
end
end CS
namespace CS
open PySem PySem.Spec PyProof.Rows L2 LamX
theorem noFns_iff {n : Nat} : ∀ {xs : List MV}, noFns n xs = true ↔ ∀ x ∈ xs, noFn n x = true
  | [] => by simp [noFns]
  | x :: xs => by rw [noFns, Bool.and_eq_true, noFns_iff (xs := xs)]; simp
theorem sortP_mem {xs : List MV} {ks : List IP} {x : MV} (h : x ∈ sortP xs ks) : x ∈ xs := by
  unfold sortP at h
  obtain ⟨p, hp, rfl⟩ := List.mem_map.mp h
  have hp := List.mem_mergeSort.mp hp
  exact (List.of_mem_zip hp).1
theorem stFree_snoc {n : Nat} {st : Sto} {o : MO} (h : noFnO n o = true) : stFree n st (st ++ [o]) = true := by
  unfold stFree
  rw [List.all_eq_true]
  intro i hi
  rw [List.mem_range, List.length_append, List.length_singleton] at hi
  by_cases hl : i < st.length
  · rw [List.getElem?_append_left hl]
    simp [hl, eqO_refl]
  · have : i = st.length := by omega
    subst this
    simp [h]
def eSortK (v : SV) (fe : DE) (mk : MEnv → Fn) : DE := fun ρ st => if v.ok then bnd (fe ρ st) fun x st1 => match seqM x st1 with
  | some xs => if xs.length ≤ sizeLine then (match keysM (mk ρ) st1 xs with | some ks => ret (.ref st1.length) (st1 ++ [.lst (sortP xs ks)]) | none => none) else none
  | none => none else none
section
variable {A : AD} {X : Cx} {W : WX} {D : List DefT} {p : Pl} {v : SV} {l : Nat} {params : Arguments} {body : Expr} {scope : Scope} {ps : List Str} {bs : List Bool} {c P : Addr} {fb fe : DE} {e : Expr} {pn pos lpos kpos : Pos}
theorem pm_sortK (G : GdL A X W D p v l) (hg : Gl X "sorted") (hm : X.mg "sorted" = none) (he : PM A X W e fe) (DL : LamD A X params body scope ps bs c P) (hps : ps.length = 1)
    (hbody : ∀ (A' : AD) (base' : Heap) (f c' : Addr) (S' : Nat → Fn) (ar : Nat → Nat) (lb : Nat) (Ar : Around) (outer : List Env) (s2 : Shared) (H2 : Hp) (E : XK), A'.ca = A.ca → (∀ b o, X.base.get? b = some o → base'.get? b = some o) → S' = v.B → ar = v.ar → (∀ i, i < v.n → A'.fa i = A.fa i) →
      Gd A' (lcx X base' ps Ar outer s2 H2 E scope f c') (fun cls d _ H' => E cls d H') D p S' ar lb → PM A' (lcx X base' ps Ar outer s2 H2 E scope f c') (fun cls d _ H' => E cls d H') body fb)
    (h1 : backTo pos (starEach [e] X.env) = (false, eval e X.env) :: backTo pos (starEach [] X.env)) (h2 : (backTo pos (starEach [e] X.env)).any (·.1) = false)
    (h3 : (backToKw pos (keywordEach [⟨some "key", .Lambda params body scope lpos, kpos⟩] X.env)).all (·.1.isSome) = true) (h4 : (backToKw pos (keywordEach [⟨some "key", .Lambda params body scope lpos, kpos⟩] X.env)).any (·.1.isNone) = false) (h5 : (backToKw pos (keywordEach [⟨some "key", .Lambda params body scope lpos, kpos⟩] X.env)).filterMap (·.1) = [Str.ofString "key"]) (h0 : starEach [e] X.env = (false, eval e X.env) :: starEach [] X.env) :
    PM A X W (.Call (.Name "sorted" pn) [e] [⟨some "key", .Lambda params body scope lpos, kpos⟩] pos) (eSortK v fe (lamM fb bs 1)) := by
  refine ⟨fun pins s σ H Q I ⟨m, ρ, st, r, w, k⟩ => ?_⟩
  unfold eSortK at k
  cases hok : v.ok with
  | false => rw [hok] at k; exact k.elim
  | true =>
  rw [hok] at k
  simp only [if_true] at k
  obtain ⟨lb, hlb, low⟩ := G.low hok
  have w1 : tMA (gc A X) W (aCons fe aNil) σ H (fun us H1 => ∃ m1 st1 x u, us = [u] ∧ Rel (gc A X) m1 st1 H1 ∧ REnv (gc A X) m1 H1 ρ σ ∧ RV (gc A X) m1 H1 x u ∧ Run (gc A X) W σ m1 H1 (match seqM x st1 with
      | some xs => if xs.length ≤ sizeLine then (match keysM (lamM fb bs 1 ρ) st1 xs with | some ks => ret (.ref st1.length) (st1 ++ [.lst (sortP xs ks)]) | none => none) else none
      | none => none) (kV (gc A X) Q)) := by
    refine ⟨m, ρ, st, r, w, ?_⟩
    have k' := k.bnd
    unfold aCons
    revert k'
    cases fe ρ st with
    | none => exact fun k' => k'
    | some q =>
      obtain ⟨q, st1⟩ := q
      cases q with
      | error x => exact fun k' => k'
      | ok x =>
        intro k' m1 H1 e1 r1 us hus
        cases hus with
        | cons hx hn =>
          cases hn
          exact ⟨m1, st1, x, _, rfl, r1, w.mono e1, hx, k' m1 H1 e1 r1⟩
  refine wpAny_Call_Name_kw (ld_blt I hg hm bb_sorted ?_ (by decide) (by decide))
  refine PyProof.Rows.callWith_kw (thn ((pma_cons he pma_nil h0).run pos pins s σ H _ I w1) fun us s1 ⟨vs, H1, I1, rv, m1, st1, x, u, ev, r1, v1, hx, k1⟩ => ?_) h1 h2 h3 h4
  subst ev
  rw [h5]
  show wpAny _ _ (evalAll ((do let v ← eval (.Lambda params body scope lpos) X.env; standAt pos; pure v) :: (backToKw pos (keywordEach [] X.env)).map (·.2))) _ _ s1
  refine wpAny_evalAll_cons (wpAny_bind (lam_mk DL I1 r1.tabs fun f c' pm ctv H2 s2 J lh t la => wpAny_bind (wpAny_standAt (wpAny_pure ?_))))
  refine wpAny_pure ?_
  have r2 := lamH_rel (c := gc A X) lh t DL.un r1
  have v2 := v1.mono (lamH_ext (c := gc A X) (m := m1) lh)
  have hx2 := hx.mono (lamH_ext (c := gc A X) (m := m1) lh)
  obtain ⟨sub, cg, rA⟩ := clo_at G low J DL r2 v2 la hbody
  rw [hps] at cg
  cases rv with
  | @cons _ z _ zs hz hzs =>
  cases hzs
  cases q1 : seqM x st1 with
  | none => rw [q1] at k1; exact k1.elim
  | some xs =>
  rw [q1] at k1
  dsimp only at k1
  split at k1
  · rename_i hsz
    cases q2 : keysM (lamM fb bs 1 ρ) st1 xs with
    | none => rw [q2] at k1; exact k1.elim
    | some ks =>
    rw [q2] at k1
    dsimp only at k1
    -- the items
    obtain ⟨lq, ws, rfl, hsq, hxs⟩ : ∃ (lq : Addr) (ws : List V), u = .ref lq ∧ (SqL X.K H2 lq ws ∨ SqT X.K H2 lq ws) ∧ RVs (gc A X) m1 H2 xs ws := by
      unfold seqM at q1
      split at q1
      · cases q1
        cases hx2 with
        | tup h1 h2 => exact ⟨_, _, rfl, .inr h1.toT, h2⟩
      · rename_i i
        cases hx2 with
        | ref hi =>
          obtain ⟨vs, g1, g2⟩ := r2.list q1 hi
          exact ⟨_, vs, rfl, .inl g1, g2⟩
      · cases q1
    obtain rfl : z = Value.ref lq := hz
    have fa' : ∀ i a, A.fa i = some a → (grAD A v.n f m1 H2).fa i = some a := fun i a z => by
      show (if i = v.n then some f else A.fa i) = some a
      rw [if_neg (Nat.ne_of_lt (G.hn i a z))]; exact z
    refine sort_run (c := gcA (grAD A v.n f m1 H2) X.prog X.w X.K X.mg (grBase X s2 H2)) (l := lb + 2) J rfl cg (G.gd.room.mono (by omega)) G.gd.gd (env0_gr J).mod (fun b o e => ?_) ?_ (fun L hL => PySem.W.hideAll_none _ hL) hsq (RVs.cg (c := gc A X) (c' := gcA (grAD A v.n f m1 H2) X.prog X.w X.K X.mg (grBase X s2 H2)) rfl fa' (fun _ _ z => z) hxs) rA q2 hsz la.sz ⟨_, la.at_⟩ fun m' H' e' r' u hu => ?_
    · obtain ⟨e1, e2⟩ := grBase_of e
      refine ⟨e1, e2, fun hm => ?_⟩
      have z : (grBase X s2 H2).get? b = none := PySem.W.hideAll_none _ hm
      rw [z] at e
      cases e
    · show (PySem.W.hideAll (hidT s2.heap H2) (frs X.stack)).objs.size ≤ _
      rw [PySem.W.hideAll_size, hidT_size]
      exact Nat.le_refl _
    · have hnf : noFnO v.n (.lst (sortP xs ks)) = true := noFns_iff.mpr fun y hy => noFns_iff.mp (hxs.noFn G.hn) y (sortP_mem hy)
      have rb := Rel.lv (c := gcA (grAD A v.n f m1 H2) X.prog X.w X.K X.mg (grBase X s2 H2)) (c' := gc A X) (n := v.n) rfl G.hn (fun i a hi z => by
        have z : (if i = v.n then some f else A.fa i) = some a := z
        rw [if_neg (Nat.ne_of_lt hi)] at z
        exact z) (fun i a z => z) rfl r2 r' e' (stFree_snoc hnf)
      refine k1 m' H' ((lamH_ext lh).trans (Ext.cg (c := gcA (grAD A v.n f m1 H2) X.prog X.w X.K X.mg (grBase X s2 H2)) (c' := gc A X) rfl e')) rb u ?_
      cases hu with
      | ref hi => exact .ref hi
  · exact k1.elim
end
end CS
namespace CS
open PySem PySem.Spec PyProof.Rows L2
section
variable {A : AD} {X : Cx} {W : WX} {e o i : Expr} {es : List Expr} {fe fo fi : DE} {g : DA} {pos p2 : Pos}
theorem seqM_at {c : GC} {m : List Addr} {st : Sto} {H : Hp} {x : MV} {u : V} {xs : List MV} (r : Rel c m st H) (h : RV c m H x u) (e : seqM x st = some xs) : ∃ a vs, u = .ref a ∧ (SqT c.K H a vs ∨ SqL c.K H a vs) ∧ RVs c m H xs vs := by
  unfold seqM at e
  split at e
  · cases e
    cases h with
    | tup h1 h2 => exact ⟨_, _, rfl, .inl h1.toT, h2⟩
  · cases h with
    | ref hi =>
      obtain ⟨vs, g1, g2⟩ := r.list e hi
      exact ⟨_, vs, rfl, .inr g1, g2⟩
  · cases e
def aStar (fe : DE) (g : DA) : DA := fun ρ st => bnd (fe ρ st) fun x st1 => match seqM x st1 with
  | some xs => bnd (g ρ st1) fun ys st2 => ret (xs ++ ys) st2
  | none => none
theorem pma_star (he : PM A X W e fe) (hr : PMA A X W es g) (hs : starEach (.Starred e p2 :: es) X.env = (true, eval e X.env) :: starEach es X.env) : PMA A X W (.Starred e p2 :: es) (aStar fe g) := by
  refine (StX.pa_star he hr hs).imp fun σ H Q ⟨m, ρ, st, r, v, k⟩ => ?_
  refine tM.thenG r v k fun x u st1 m1 H1 r1 e1 v1 hu k1 => ?_
  cases q : seqM x st1 with
  | none => simp only [q] at k1; exact k1.elim
  | some xs =>
    simp only [q] at k1
    obtain ⟨a, vs, rfl, h1, h2⟩ := seqM_at r1 hu q
    refine ⟨a, vs, rfl, h1, tMA.thenG r1 v1 k1 fun ys us st2 m2 H2 r2 e2 v2 hus k2 => ?_⟩
    exact Run.ok k2 .refl r2 _ ((h2.mono e2).append hus)
def gTq (gs : DGs) (n : Nat) : DG := fun x ρ st => match seqM x st with | some xs => if xs.length = n then gs xs ρ st else none | none => none
theorem pmg_seq {k n : Nat} {gs : DGs} (hc : X.calm = true) (h : PMGs A X W es gs) (hn : (assignEach es X.env).length = n) (hst : (assignEach es X.env).findIdx? (·.1) = none) : PMG A X W (.Tuple es k pos) (gTq gs n) := by
  have p1 := pg_tup (pos := pos) (k := k) hc h hn hst
  have p2 := pg_lst (pos := pos) (k := k) hc h hn hst
  refine ⟨fun pins s σ H v u Q I r ⟨m, ρ, st, x, rl, w, hx, k⟩ => ?_⟩
  unfold gTq at k
  cases q : seqM x st with
  | none => rw [q] at k; exact k.elim
  | some xs =>
    rw [q] at k
    dsimp only at k
    split at k
    · rename_i hl
      obtain ⟨a, vs, rfl, h1, h2⟩ := seqM_at rl hx q
      rcases h1 with h1 | h1
      · exact p1.run pins s σ H _ u Q I r ⟨a, vs, rfl, h1, by rw [← h2.length]; exact hl, m, ρ, st, _, rl, w, h2, k⟩
      · exact p2.run pins s σ H _ u Q I r ⟨a, vs, rfl, h1, by rw [← h2.length]; exact hl, m, ρ, st, _, rl, w, h2, k⟩
    · exact k.elim
theorem goes_seq {gs : DGs} {n : Nat} (h : GoesS gs) : Goes (gTq gs n) := fun x ρ st f ρ' st' e => by
  unfold gTq at e
  split at e
  · split at e
    · exact h _ _ _ _ _ _ e
    · cases e
  · cases e
def flatM : MV → Bool
  | .non => true
  | .bl _ => true
  | .int _ => true
  | .str _ => true
  | _ => false
def eqF : MV → MV → Bool
  | .non, .non => true
  | .bl a, .bl b => a == b
  | .bl a, .int b => (if a then 1 else 0) == b
  | .int a, .bl b => a == (if b then 1 else 0)
  | .int a, .int b => a == b
  | .str a, .str b => a == b
  | _, _ => false
theorem flat_ok {c : GC} {m : List Addr} {H : Hp} {x : MV} {u : V} (h : RV c m H x u) (f : flatM x = true) : L2.flatV u = true := by
  cases h <;> first | rfl | cases f
theorem flats_ok {c : GC} {m : List Addr} {H : Hp} : ∀ {xs : List MV} {us : List V}, RVs c m H xs us → xs.all flatM = true → us.all L2.flatV = true
  | _, _, .nil, _ => rfl
  | _, _, .cons h r, f => by
    rw [List.all_cons, Bool.and_eq_true] at f ⊢
    exact ⟨flat_ok h f.1, flats_ok r f.2⟩
theorem eqF_ok {c : GC} {m : List Addr} {H : Hp} {x y : MV} {u v : V} (h : RV c m H x u) (h' : RV c m H y v) (f : flatM x = true) (f' : flatM y = true) : L2.eqV u v = eqF x y := by
  cases h <;> cases h' <;> first | rfl | cases f | cases f'
def inF (x : MV) (xs : List MV) : Bool := xs.any fun y => eqF y x
theorem inF_ok {c : GC} {m : List Addr} {H : Hp} {x : MV} {u : V} (h : RV c m H x u) (f : flatM x = true) : ∀ {xs : List MV} {us : List V}, RVs c m H xs us → xs.all flatM = true → inV u us = inF x xs
  | _, _, .nil, _ => rfl
  | _, _, .cons h1 r, f1 => by
    rw [List.all_cons, Bool.and_eq_true] at f1
    unfold inV inF
    rw [List.any_cons, List.any_cons, eqF_ok h1 h f1.1 f]
    congr 1
    exact inF_ok h f r f1.2
def inM (neg : Bool) (x y : MV) (st : Sto) : R MV := match seqM y st with
  | some ys => if flatM x && ys.all flatM then ret (.bl (if neg then !inF x ys else inF x ys)) st else none
  | none => none
theorem in_ok {neg : Bool} {m : List Addr} {st : Sto} {σ : L2.St} {H : Hp} {x y : MV} {u v : V} {Q : VK} (r : Rel (gc A X) m st H) (hx : RV (gc A X) m H x u) (hy : RV (gc A X) m H y v) (k : Run (gc A X) W σ m H (inM neg x y st) (kV (gc A X) Q)) : rIn X.K neg u v H Q := by
  unfold inM at k
  cases q : seqM y st with
  | none => rw [q] at k; exact k.elim
  | some ys =>
    rw [q] at k
    dsimp only at k
    split at k
    · rename_i f
      rw [Bool.and_eq_true] at f
      obtain ⟨a, vs, rfl, h1, h2⟩ := seqM_at r hy q
      refine ⟨a, vs, rfl, h1.symm, flat_ok hx f.1, flats_ok h2 f.2, ?_⟩
      rw [inF_ok hx f.1 h2 f.2]
      exact k.ok .refl r _ (.bl _)
    · exact k.elim
theorem op_inM : OpM A X W (compareOp .In) (inM false) := ⟨_, op_in_seq, fun m st σ H x y u v Q r hx hy k => in_ok r hx hy k⟩
theorem op_notInM : OpM A X W (compareOp .NotIn) (inM true) := ⟨_, op_notIn_seq, fun m st σ H x y u v Q r hx hy k => in_ok r hx hy k⟩
def pairsM : List MV → Option (List IP)
  | [] => some []
  | .tup [.int a, .int b] :: xs => (pairsM xs).map ((a, b) :: ·)
  | _ => none
def sortIP (ks : List IP) : List IP := ks.mergeSort fun p q => leP p q
def sortM (xs : List MV) (st : Sto) : R MV := match xs with
  | [x] => (match seqM x st with
    | some ys => (match x, pairsM ys with
      | .ref _, some ks => if ys.length ≤ sizeLine then ret (.ref st.length) (st ++ [.lst (sortP ys ks)]) else none
      | _, _ => none)
    | none => none)
  | _ => none
def PairsAt (K : PySem.W.Frag) (H : Hp) (ws : List V) (ks : List IP) : Prop := Paired (fun w (k : IP) => ∃ t, w = V.ref t ∧ SqT K H t [.int k.1, .int k.2]) ws ks
theorem pairsM_ok {c : GC} {m : List Addr} {H : Hp} : ∀ {ys : List MV} {vs : List V} {ks : List IP}, RVs c m H ys vs → pairsM ys = some ks → PairsAt c.K H vs ks
  | _, _, ks, .nil, h => by cases h; exact .nil
  | y :: ys, v :: vs, ks, .cons h1 r, h => by
    unfold pairsM at h
    split at h
    · cases ‹_ :: _ = []›
    · rename_i a b xs e
      cases e
      cases q : pairsM ys with
      | none => rw [q] at h; cases h
      | some ks' =>
        rw [q] at h
        cases h
        refine .cons ?_ (pairsM_ok r q)
        cases h1 with
        | tup hs hv =>
          cases hv with
          | cons g1 hv =>
            cases g1
            cases hv with
            | cons g2 hv =>
              cases g2
              cases hv
              exact ⟨_, rfl, hs.toT⟩
    · cases h
def rSrt (K : PySem.W.Frag) : List V → Hp → VK → Prop := fun vs H Q => ∃ (a : Addr) (ws : List V) (ks : List IP), vs = [V.ref a] ∧ SqL K H a ws ∧ PairsAt K H ws ks ∧ ∀ p, H p = none → Q (.ref p) (upd H p (.lst (((ws.zip ks).mergeSort fun p q => leP p.2 q.2).map (·.1))))
theorem cr_srt (hu : X.A.units + 64 < cLine) : CallR X (.builtin "sorted") (rSrt X.K) := by
  intro pins s σ H vs us Q I rv h
  obtain ⟨a, ws, ks, rfl, hs, hp, q⟩ := h
  obtain rfl := Vals.ref1 rv
  obtain ⟨its, rw', hl, hz⟩ := I.list hs
  have each : ∀ {ws : List V} {ks : List IP} {its : List Value}, PairsAt X.K H ws ks → Vals ws its → ∃ T : List (V × IP), T = ws.zip ks ∧ T.map (fun t => kd t.2) = ks.map kd ∧ PySem.W.EachIs (fun v (t : V × IP) => RelV t.1 v) its T ∧ PySem.W.EachIs (fun v (t : V × IP) => ∃ as, Reads s.heap v (kd t.2) as) its T := by
    intro ws ks its h1 h2
    induction h1 generalizing its with
    | nil => cases h2; exact ⟨[], rfl, rfl, .nil, .nil⟩
    | @cons w k ws ks hw _ ih =>
      cases h2 with
      | @cons _ u _ its ru h2 =>
        obtain ⟨T, e1, e2, e3, e4⟩ := ih h2
        obtain ⟨t, rfl, sq⟩ := hw
        obtain rfl : u = Value.ref t := ru
        exact ⟨(V.ref t, k) :: T, by rw [e1]; rfl, by rw [List.map_cons, e2]; rfl, .cons rfl e3, .cons ⟨[], reads_kd I.kIn I.hok sq⟩ e4⟩
  obtain ⟨T, t1, t2, t3, t4⟩ := each hp rw'
  have hlen : T.length = its.length := t3.length.symm
  have hzi : its.length ≤ sizeLine := by rw [← rw'.length]; exact hz
  refine PySem.W.sorted_data (enc := fun t : V × IP => kd t.2) hl.isList t3 t4 (fun d h1 d' h2 => ?_) (.inl fun d h1 => ?_) (by rw [hlen]; exact hzi) (fun b _ => ?_) fun out ho he => ?_
  · obtain ⟨k1, _, rfl⟩ := List.mem_map.mp h1
    obtain ⟨k2, _, rfl⟩ := List.mem_map.mp h2
    simp [kd, PySem.W.alike, PySem.W.alikeAll]
  · obtain ⟨k1, _, rfl⟩ := List.mem_map.mp h1
    exact ⟨_, _, rfl⟩
  · have : (kd b.2).depth ≤ 10 := by simp [kd, PyData.depth, PyData.depthAll]
    omega
  · have e5 : T.mergeSort (PySem.W.dataLe false fun t : V × IP => kd t.2) = T.mergeSort fun p q => leP p.2 q.2 := by
      congr 1
      funext x y
      exact dataLe_kd (fun t : V × IP => t.2) x y
    rw [e5] at he
    have hv : Vals ((T.mergeSort fun p q => leP p.2 q.2).map (·.1)) out := by
      have go : ∀ {l1 : List Value} {l2 : List (V × IP)}, PySem.W.EachIs (fun v (t : V × IP) => RelV t.1 v) l1 l2 → Vals (l2.map (·.1)) l1 := by
        intro l1 l2 e
        induction e with
        | nil => exact .nil
        | cons h _ ih => exact .cons h ih
      exact go he
    obtain ⟨ep, hat⟩ := PyProof.Rows.sortedAll_at s.heap its out.toArray
    refine ⟨.ref _, _, I.laid (t' := s.toks) (o := .lst ((T.mergeSort fun p q => leP p.2 q.2).map (·.1))) (fun _ _ => PyProof.Rows.sortedAll_old) (Nat.le_succ _) ⟨?_, out, ep, hv, hat⟩, rfl, ?_⟩
    · rw [hv.length, ho, hlen]; exact hzi
    · rw [t1]
      exact q _ (I.hok.fresh (Nat.le_succ _))
theorem cl_sort (hu : X.A.units + 64 < cLine) : ClM A X W (.builtin "sorted") sortM := by
  refine ⟨_, cr_srt hu, fun m st σ H xs us Q r hus k => ?_⟩
  unfold sortM at k
  split at k
  · rename_i x
    cases hus with
    | cons hx hn =>
    cases hn
    cases q : seqM x st with
    | none => rw [q] at k; exact k.elim
    | some ys =>
      rw [q] at k
      dsimp only at k
      split at k
      · rename_i j ks q2
        split at k
        · obtain ⟨a, vs, rfl, h1, h2⟩ := seqM_at r hx q
          have hp := pairsM_ok h2 q2
          cases hx with
          | ref hi =>
          obtain ⟨ws, g1, g2⟩ := r.list (show listOf st j = some ys from q) hi
          have hp := pairsM_ok g2 q2
          refine ⟨_, ws, ks, rfl, g1, hp, fun p hpn => ?_⟩
          have zip : RVs (gc A X) m H (sortP ys ks) (((ws.zip ks).mergeSort fun p q => leP p.2 q.2).map (·.1)) := by
            have key : ∀ {ys : List MV} {ws : List V} {ks : List IP}, RVs (gc A X) m H ys ws → ks.length = ys.length → ∃ T : List (MV × V × IP), T.map (fun t => (t.1, t.2.2)) = ys.zip ks ∧ T.map (fun t => (t.2.1, t.2.2)) = ws.zip ks ∧ ∀ t ∈ T, RV (gc A X) m H t.1 t.2.1 := by
              intro ys ws ks h
              induction ys generalizing ws ks with
              | nil => intro hl; cases h; exact ⟨[], by simp, by simp, by simp⟩
              | cons y ys ih =>
                intro hl
                cases h with
                | cons h1 h2 =>
                  cases ks with
                  | nil => simp at hl
                  | cons k ks =>
                    obtain ⟨T, e1, e2, e3⟩ := ih h2 (by simpa using hl)
                    refine ⟨(y, _, k) :: T, by rw [List.map_cons, e1]; rfl, by rw [List.map_cons, e2]; rfl, ?_⟩
                    intro t ht
                    rcases List.mem_cons.mp ht with e | ht
                    · rw [e]; exact h1
                    · exact e3 t ht
            obtain ⟨T, e1, e2, e3⟩ := key g2 (by rw [g2.length]; exact (Paired.length hp).symm)
            unfold sortP
            rw [← e1, ← e2, ← List.map_mergeSort (r := fun x y : MV × V × IP => leP x.2.2 y.2.2) (by intro a _ b _; rfl), ← List.map_mergeSort (r := fun x y : MV × V × IP => leP x.2.2 y.2.2) (by intro a _ b _; rfl), List.map_map, List.map_map]
            have all : ∀ l : List (MV × V × IP), (∀ t ∈ l, RV (gc A X) m H t.1 t.2.1) → RVs (gc A X) m H (l.map ((fun x => x.1) ∘ fun t => (t.1, t.2.2))) (l.map ((fun x => x.1) ∘ fun t => (t.2.1, t.2.2))) := by
              intro l
              induction l with
              | nil => intro _; exact .nil
              | cons t l ih => intro h; exact .cons (h t List.mem_cons_self) (ih fun t ht => h t (List.mem_cons_of_mem _ ht))
            exact all _ fun t ht => e3 t (List.mem_mergeSort.mp ht)
          exact new_lst r zip k p hpn
        · exact k.elim
      · exact k.elim
  · exact k.elim
end
end CS
namespace CS
open PySem PySem.Spec PyProof.Rows L2
section
variable {A : AD} {X : Cx} {W : WX} {e o i : Expr} {es : List Expr} {fe fo fi : DE} {g : DA} {pos p2 : Pos}
def dKV : List (Str × DE) → DA
  | [] => fun _ st => ret [] st
  | (_, f) :: r => fun ρ st => bnd (f ρ st) fun x st1 => bnd (dKV r ρ st1) fun xs st2 => ret (x :: xs) st2
def eDix (L : List (Str × DE)) (fi : DE) : DE := fun ρ st => bnd (dKV L ρ st) fun vs st1 => bnd (fi ρ st1) fun k st2 => match k with
  | .str s => (match ((L.map (·.1)).zip vs).lookup s with | some v => ret v st2 | none => none)
  | _ => none
inductive PKs (A : AD) (X : Cx) (W : WX) : List (Option Expr) → List Expr → List (Str × DE) → Prop
  | nil : PKs A X W [] [] []
  | cons {k : Str} {j : Nat} {p : Pos} {v : Expr} {f : DE} {ks : List (Option Expr)} {vs : List Expr} {L : List (Str × DE)} : PM A X W v f → PKs A X W ks vs L → PKs A X W (some (.Constant (.str k) j p) :: ks) (v :: vs) ((k, f) :: L)
abbrev trOf (A : AD) (X : Cx) (W : WX) (L : List (Str × DE)) : List (TE × TE) := L.map fun q => (tC (.str q.1), tM (gc A X) W q.2)
theorem PKs.pps {ks : List (Option Expr)} {vs : List Expr} {L : List (Str × DE)} (h : PKs A X W ks vs L) : PPs X pos ks vs (trOf A X W L) := by
  induction h with
  | nil => exact pps_nil
  | cons hv _ ih => exact pps_cons pe_str hv ih
theorem pairs_of {σ : L2.St} : ∀ {L : List (Str × DE)} {m : List Addr} {ρ : MEnv} {st : Sto} {H : Hp} {Q : List (V × V) → Hp → Prop}, Rel (gc A X) m st H → REnv (gc A X) m H ρ σ →
    Run (gc A X) W σ m H (dKV L ρ st) (fun xs _ m' H' => ∀ us, RVs (gc A X) m' H' xs us → Q ((L.map fun q => V.str q.1).zip us) H') → tPairs (trOf A X W L) σ H Q
  | [], m, ρ, st, H, Q, r, v, k => Run.ok k .refl r [] .nil
  | (q, f) :: L, m, ρ, st, H, Q, r, v, k => by
    refine tM.thenG r v k fun x u st1 m1 H1 r1 e1 v1 hu k1 => ?_
    refine pairs_of r1 v1 (k1.bnd.imp fun xs st2 m2 H2 r2 e2 k2 us hus => ?_)
    exact Run.ok k2 .refl r2 (u :: us) (.cons (hu.mono e2) hus)
theorem rel_dK {c : GC} {m : List Addr} {st : Sto} {H : Hp} {D : Addr} {kvs kvs' : List (Key × V)} (r : Rel c m st H) (h00 : c.H0 D = none) (hD : H D = some (.dK kvs)) (hm : D ∉ m) : Rel c m st (upd H D (.dK kvs')) ∧ ∀ m0 H0, Ext c m0 H0 m H → H0 D = none → Ext c m0 H0 m (upd H D (.dK kvs')) := by
  have g : Gr c m H m (upd H D (.dK kvs')) := by
    refine ⟨⟨[], by simp⟩, fun b zs h => ?_⟩
    rcases h with ⟨o, h, hd⟩ | h
    · exact .inl ⟨o, by rw [upd_ne (fun z => by rw [z, hD] at h; cases h)]; exact h, hd⟩
    · exact .inr h
  have ex : ∀ m0 H0, Ext c m0 H0 m H → H0 D = none → Ext c m0 H0 m (upd H D (.dK kvs')) := fun m0 H0 e h0 => by
    refine ⟨e.pre, fun b zs h => g.tup b zs (e.tup b zs h), e.fresh, fun b o h hm ht => ?_, fun b h => ?_⟩
    · rw [upd_ne (ne_of_none h h0)]; exact e.frame b o h hm ht
    · by_cases z : b = D
      · rw [z, upd_same]; simp
      · rw [upd_ne z]; exact e.live b h
  refine ⟨⟨r.len, r.nd, fun i o h => ?_, ex _ _ r.gr h00, fun p hp => ?_⟩, ex⟩
  · obtain ⟨a, ha, q⟩ := r.obj i o h
    have ne : a ≠ D := fun z => hm (by rw [← z]; exact List.mem_of_getElem? ha)
    refine ⟨a, ha, ?_⟩
    cases o with
    | lst zs => obtain ⟨us, h1, h2⟩ := q; exact ⟨us, by rw [upd_ne ne]; exact h1, h2.gr g⟩
    | frz zs => obtain ⟨ob, us, h1, h2⟩ := q; exact ⟨ob, us, by rw [upd_ne ne]; exact h1, h2.gr g⟩
    | ins k fs => obtain ⟨C, dx, gs, h0, h1, h2⟩ := q; exact ⟨C, dx, gs, h0, by rw [upd_ne ne]; exact h1, Paired.mapP h2 fun p q z => ⟨z.1, z.2.gr g⟩⟩
    | dct => exact (upd_ne ne).trans q
  · obtain ⟨ps, h1, h2, h3⟩ := r.tabs p hp
    have na : ∀ d v, H d = some v → (∀ zs, v ≠ .dK zs) → d ≠ D := fun d v hd k z => by
      rw [z, hD] at hd
      cases hd
      exact k _ rfl
    refine ⟨ps, (upd_ne (na _ _ h1 fun _ z => by cases z)).trans h1, h2, fun pos cv hc => ?_⟩
    obtain ⟨d, e1, e2⟩ := h3 pos cv hc
    exact ⟨d, e1, (upd_ne (na _ _ e2 fun _ z => by cases z)).trans e2⟩
theorem mergeK_app {kvs : List (Key × V)} : ∀ {acc : List (Key × V)}, (kvs.map (·.1)).Nodup → (∀ k ∈ kvs.map (·.1), k ∉ acc.map (·.1)) → mergeK acc kvs = acc ++ kvs := by
  unfold mergeK
  induction kvs with
  | nil => intro acc _ _; simp
  | cons p kvs ih =>
    intro acc nd hn
    rw [List.map_cons, List.nodup_cons] at nd
    rw [List.foldl_cons]
    have e : putK acc p.1 p.2 = acc ++ [p] := by
      unfold putK
      rw [if_neg]
      intro h
      obtain ⟨q, hq, e⟩ := List.any_eq_true.mp h
      exact hn p.1 (by simp) (by rw [← of_decide_eq_true e]; exact List.mem_map.mpr ⟨q, hq, rfl⟩)
    rw [e, ih nd.2]
    · simp
    · intro k hk
      rw [List.map_append, List.mem_append]
      rintro (h | h)
      · exact hn k (by simp at hk ⊢; exact .inr hk) h
      · simp at h
        rw [h] at hk
        exact nd.1 hk
theorem pm_dix {keys : List (Option Expr)} {vals : List Expr} {L : List (Str × DE)} {dpos : Pos} (hu : X.A.units + 64 < cLine) (h : PKs A X W keys vals L) (hi : PM A X W i fi) (nd : (L.map (·.1)).Nodup) (h0 : keys ≠ []) (h15 : keys.length ≤ 15) (hall : keys.all (·.isSome) = true) (hl : keys.length = vals.length) (hlL : L.length ≤ 15) (hs : NoSl i) :
    PM A X W (.Subscript (.Dict keys vals dpos) i pos) (eDix L fi) := by
  refine (pe_dget (by omega) (pe_disp (h.pps (pos := dpos)) hall hl h0 h15) hi hs).imp fun σ H Q ⟨m, ρ, st, r, v, k⟩ => ?_
  intro p hp
  have hpm : p ∉ m := fun hm => by obtain ⟨u, hu⟩ := r.mem hm; rw [hp] at hu; cases hu
  have r0 := r.same (upd_keeps (u := .dK []) hp)
  have e0 : Ext (gc A X) m H m (upd H p (.dK [])) := ext_new hp
  refine pairs_of r0 (v.mono e0) ?_
  unfold eDix at k
  revert k
  cases q : dKV L ρ st with
  | none => exact fun k => k
  | some w =>
    obtain ⟨w, st1⟩ := w
    cases w with
    | error x => exact fun k => Run.under (show Run (gc A X) W σ m H (some (.error x, st1)) _ from k) e0
    | ok xs =>
      intro k m2 H2 e2 r2 us hus
      have k : Run (gc A X) W σ m H (bnd (fi ρ st1) fun k st2 => match k with
        | .str s => (match ((L.map (·.1)).zip xs).lookup s with | some v => ret v st2 | none => none)
        | _ => none) (kV (gc A X) Q) := k
      have hp2 : H2 p = some (.dK []) := e2.frame p _ upd_same hpm fun _ z => by cases z
      have hpm2 : p ∉ m2 := fun hm => (e2.fresh p hm).elim hpm fun z => by rw [upd_same] at z; cases z
      have lx : xs.length = us.length := hus.length
      have lL : xs.length = L.length := by
        have : ∀ {L : List (Str × DE)} {ρ st xs st1}, dKV L ρ st = some (.ok xs, st1) → xs.length = L.length := by
          intro L
          induction L with
          | nil => intro ρ st xs st1 h; cases h; rfl
          | cons a L ih =>
            intro ρ st xs st1 h
            unfold dKV bnd at h
            split at h
            · cases h
            · cases h
            · dsimp only at h
              split at h
              · cases h
              · cases h
              · rename_i hh
                cases h
                rw [List.length_cons, List.length_cons, ih hh]
        exact this q
      let kvs : List (Key × V) := ((L.map fun q => (Sum.inr q.1 : Key))).zip us
      have c00 : (gc A X).H0 p = none := by
        cases z : (gc A X).H0 p with
        | none => rfl
        | some o => exact absurd hp (r.gr.live p (by rw [z]; simp))
      obtain ⟨r3, ex⟩ := rel_dK (kvs' := mergeK [] kvs) r2 c00 hp2 hpm2
      have e3 := ex m H (e0.trans e2) hp
      have hk1 : kvs.map (·.1) = L.map fun q => (Sum.inr q.1 : Key) := List.map_fst_zip (by rw [List.length_map]; omega)
      have mk : mergeK [] kvs = kvs := by
        rw [mergeK_app (by
          rw [hk1]
          have : (L.map fun q => (Sum.inr q.1 : Key)) = (L.map (·.1)).map Sum.inr := by rw [List.map_map]; rfl
          rw [this]
          exact List.Pairwise.map _ (fun a b h z => h (Sum.inr.inj z)) nd) (by simp)]
        simp
      refine ⟨hp2, kvs, ?_, ?_, ?_⟩
      · rw [show kvs = ((L.map fun q => (Sum.inr q.1 : Key))).zip us from rfl]
        clear k hus r2 r3 e2 e3 mk hk1 ex
        have : ∀ (L : List (Str × DE)) (us : List V), (L.map fun q => V.str q.1).zip us = (((L.map fun q => (Sum.inr q.1 : Key))).zip us).map fun kv => (L2.kV kv.1, kv.2) := by
          intro L
          induction L with
          | nil => intro us; rfl
          | cons a L ih =>
            intro us
            cases us with
            | nil => rfl
            | cons u us => rw [List.map_cons, List.zip_cons_cons, ih us]; rfl
        exact this L us
      · show (((L.map fun q => (Sum.inr q.1 : Key))).zip us).length ≤ 15
        rw [List.length_zip, List.length_map]; omega
      · have k3 := k.under e3
        refine tM.thenG r3 (v.mono e3) k3 fun y uy st4 m4 H4 r4 e4 v4 hy k4 => ?_
        cases y with
        | str s =>
          dsimp only at k4
          cases q2 : ((L.map (·.1)).zip xs).lookup s with
          | none => rw [q2] at k4; exact k4.elim
          | some y =>
            rw [q2] at k4
            cases hy
            have hp4 : H4 p = some (.dK (mergeK [] kvs)) := e4.frame p _ upd_same hpm2 fun _ z => by cases z
            have hus3 : RVs (gc A X) m2 (upd H2 p (.dK (mergeK [] kvs))) xs us := by
              refine hus.gr ⟨⟨[], by simp⟩, fun b zs h => ?_⟩
              rcases h with ⟨o, h, hd⟩ | h
              · exact .inl ⟨o, by rw [upd_ne (fun z => by rw [z, hp2] at h; cases h)]; exact h, hd⟩
              · exact .inr h
            have key : ∀ {L : List (Str × DE)} {xs : List MV} {us : List V}, RVs (gc A X) m4 H4 xs us → ((L.map (·.1)).zip xs).lookup s = some y → ∃ u, valV (((L.map fun q => (Sum.inr q.1 : Key))).zip us) (.inr s) = some u ∧ RV (gc A X) m4 H4 y u := by
              intro L
              induction L with
              | nil => intro xs us _ h; cases h
              | cons a L ih =>
                intro xs us hr h
                cases hr with
                | nil => cases h
                | @cons x u xs us h1 hr =>
                  rw [List.map_cons, List.zip_cons_cons, List.lookup_cons] at h
                  unfold valV
                  rw [List.map_cons, List.zip_cons_cons, List.find?_cons]
                  by_cases ea : s = a.1
                  · subst ea
                    simp at h
                    subst h
                    exact ⟨u, by simp, h1⟩
                  · have e1 : (s == a.1) = false := by simpa using ea
                    rw [e1] at h
                    have e2 : decide ((Sum.inr a.1 : Key) = Sum.inr s) = false := decide_eq_false fun z => ea (Sum.inr.inj z).symm
                    dsimp only
                    rw [e2]
                    exact ih hr h
            obtain ⟨u, hu1, hu2⟩ := key (hus3.mono e4) q2
            refine ⟨p, u, rfl, .inl ⟨kvs, .inr s, .inl (by rw [hp4, mk]), rfl, hu1.symm⟩, Run.ok k4 .refl r4 u hu2⟩
        | _ => exact k4.elim
def eApp (fo fe : DE) : DE := fun ρ st => bnd (fo ρ st) fun x st1 => match x with
  | .ref j => (match listOf st1 j with
    | some _ => bnd (fe ρ st1) fun y st2 => (match st2[j]? with
      | some (.lst xs) => if xs.length < sizeLine then ret .non (st2.set j (.lst (xs ++ [y]))) else none
      | _ => none)
    | none => none)
  | _ => none
theorem pm_app {apos cpos : Pos} (ho : PM A X W o fo) (he : PM A X W e fe) (hbase : attributeBase o "append" X.env (eval o X.env) = eval o X.env)
    (hfew : ((backTo cpos (starEach [e] X.env)).all (fun x => !x.1) && (backToKw cpos (keywordEach [] X.env)).all (fun x => x.1.isSome) && decide ([e].length + ([] : List Keyword).length + (if ([] : List Keyword).isEmpty then 0 else 1) < 30)) = true)
    (hline : (apos.endLine == cpos.line) = true) (hs : starEach [e] X.env = (false, eval e X.env) :: starEach [] X.env) : PM A X W (.Call (.Attribute o "append" apos) [e] [] cpos) (eApp fo fe) := by
  refine (pe_bm PySem.F.plainAttrs_list PySem.F.slot_list_append PySem.F.type_list_append mt_append ho (pa_cons he pa_nil hs) hbase hfew hline hs (by rfl)).imp fun σ H Q ⟨m, ρ, st, r, v, k⟩ => ?_
  refine tM.thenG r v k fun x u st1 m1 H1 r1 e1 v1 hu k1 => ?_
  cases x with
  | ref j =>
    dsimp only at k1
    cases q : listOf st1 j with
    | none => simp only [q] at k1; exact k1.elim
    | some ys =>
      simp only [q] at k1
      cases hu with
      | @ref _ a hj =>
      obtain ⟨vs, h1, h2⟩ := r1.list q hj
      refine ⟨.inl ⟨rfl, vs, h1⟩, ?_⟩
      refine tM.thenG r1 v1 k1 fun y w st2 m2 H2 r2 e2 v2 hw k2 => ?_
      cases q2 : st2[j]? with
      | none => simp only [q2] at k2; exact k2.elim
      | some ob =>
        cases ob with
        | lst xs =>
          simp only [q2] at k2
          split at k2
          · rename_i hz
            obtain ⟨us, g1, g2⟩ := r2.lst q2 (e2.at hj)
            refine ⟨a, us, w, rfl, rfl, g1, by rw [← g2.length]; exact hz, ?_⟩
            obtain ⟨r3, e3⟩ := r2.setLst q2 (e2.at hj) (g2.append (.cons hw .nil))
            exact Run.ok k2 e3 r3 _ .non
          · exact k2.elim
        | _ => simp only [q2] at k2; exact k2.elim
  | _ => exact k1.elim
end
end CS
namespace CS
open PySem PySem.Spec PyProof.Rows L2
def GlQ (K : PySem.W.Frag) (mg : Str → Option Value) (x : Str) : MV → Prop
  | .tup xs => ∃ (a : Addr) (vs : List V), mg x = some (.ref a) ∧ (∃ (o : Obj) (its : Array Value) (n : Nat), K.lookup a = some o ∧ o.cls = .type "tuple" ∧ o.dict = none ∧ o.data = .seq its n ∧ its.size ≤ sizeLine ∧ Vals vs its.toList) ∧ ∀ (c : GC) (m : List Addr) (H : Hp), RVs c m H xs vs
  | _ => False
theorem pm_globQ {A : AD} {X : Cx} {W : WX} {x : Str} {v : MV} {pos : Pos} (hg : Gl X x) (h : GlQ X.K X.mg x v) (hd : (x == ("__debug__" : Str)) = false) : PM A X W (.Name x pos) (eC v) := by
  cases v with
  | tup xs =>
    obtain ⟨a, vs, h1, h2, h3⟩ := h
    exact pm_globT hg ⟨.ref a, .ref a, h1, rfl, fun m H => .tup (.inr h2) (h3 _ m H)⟩ hd
  | _ => exact h.elim
theorem lu_of {tb : List (Addr × Str)} {as : List Addr} {b b' : Addr} {s : Str} {i : Nat} (nd : as.Nodup) (h1 : tb.map (·.1) = as) (h2 : tb[i]? = some (b, s)) (h3 : b' = b) : ∀ q ∈ tb, q.1 = b' → q.2 = s := by
  subst h1 h3
  intro q hq e
  obtain ⟨j, hj, ej⟩ := List.getElem_of_mem hq
  obtain ⟨hi, ei⟩ := List.getElem?_eq_some_iff.mp h2
  have z : i = j := by
    have pw := List.pairwise_iff_getElem.mp nd
    have li : i < (tb.map (·.1)).length := by rw [List.length_map]; exact hi
    have lj : j < (tb.map (·.1)).length := by rw [List.length_map]; exact hj
    have q1 : (tb.map (·.1))[i] = (tb.map (·.1))[j] := by rw [List.getElem_map, List.getElem_map, ei, ej, e]
    rcases Nat.lt_trichotomy i j with h | h | h
    · exact absurd q1 (pw i j li lj h)
    · exact h
    · exact absurd q1.symm (pw j i lj li h)
  subst z
  rw [← ej, ei]
end CS
namespace CS
open PySem L2
def Wp {α : Type} (r : R α) (P : α → Sto → Prop) (X : MX → Sto → Prop := fun _ _ => False) : Prop := match r with
  | none => False
  | some (.ok a, st) => P a st
  | some (.error x, st) => X x st
def WpS (r : SR) (P : Fl → MEnv → Sto → Prop) : Prop := match r with
  | none => False
  | some (f, ρ, st) => P f ρ st
section
variable {α β : Type} {P : α → Sto → Prop} {Q : β → Sto → Prop} {X : MX → Sto → Prop} {PS : Fl → MEnv → Sto → Prop} {ρ : MEnv} {st : Sto}
@[simp] theorem wp_ret {a : α} : Wp (ret a st) P X = P a st := id rfl
@[simp] theorem wp_none : Wp (none : R α) P X = False := id rfl
@[simp] theorem wp_ok {a : α} : Wp (some (.ok a, st)) P X = P a st := id rfl
@[simp] theorem wp_err {x : MX} : Wp (some (.error x, st) : R α) P X = X x st := id rfl
@[simp] theorem wp_bnd {r : R α} {f : α → Sto → R β} : Wp (bnd r f) Q X = Wp r (fun a st => Wp (f a st) Q X) X := by
  match r with
  | none => rfl
  | some (.error x, st) => rfl
  | some (.ok a, st) => rfl
theorem wp_bndN {r : R α} {f : α → Sto → R β} : Wp (bndN r f) Q X = Wp r (fun a st => Wp (f a st) Q X) (fun _ _ => False) := by
  match r with
  | none => rfl
  | some (.error x, st) => rfl
  | some (.ok a, st) => rfl
theorem Wp.mono {r : R α} {P P' : α → Sto → Prop} {X X' : MX → Sto → Prop} (h : Wp r P X) (k : ∀ a st, P a st → P' a st) (kx : ∀ x st, X x st → X' x st) : Wp r P' X' := by
  match r, h with
  | none, h => exact h
  | some (.error x, st), h => exact kx _ _ h
  | some (.ok a, st), h => exact k _ _ h
theorem Wp.imp {r : R α} {P P' : α → Sto → Prop} (h : Wp r P X) (k : ∀ a st, P a st → P' a st) : Wp r P' X := h.mono k fun _ _ z => z
theorem Wp.quiet {r : R α} {P P' : α → Sto → Prop} (h : Wp r P) (k : ∀ a st, P a st → P' a st) : Wp r P' X := h.mono k fun _ _ z => z.elim
theorem Wp.get {r : R α} (h : Wp r P) : ∃ a st, r = ret a st ∧ P a st := by
  match r, h with
  | some (.ok a, st), h => exact ⟨a, st, rfl, h⟩
@[simp] theorem wp_ite {c : Prop} [Decidable c] {a b : R α} : Wp (if c then a else b) P X = if c then Wp a P X else Wp b P X := by split <;> rfl
@[simp] theorem wps_some {f : Fl} : WpS (some (f, ρ, st)) PS = PS f ρ st := id rfl
@[simp] theorem wps_none : WpS none PS = False := id rfl
@[simp] theorem wps_ite {c : Prop} [Decidable c] {a b : SR} : WpS (if c then a else b) PS = if c then WpS a PS else WpS b PS := by split <;> rfl
theorem wps_sb {r : R α} {f : α → Sto → SR} : WpS (sb ρ r f) PS = Wp r (fun a st => WpS (f a st) PS) (fun x st => PS (.exc x) ρ st) := by
  match r with
  | none => rfl
  | some (.error x, st) => rfl
  | some (.ok a, st) => rfl
def Thn (f : DS) (PS : Fl → MEnv → Sto → Prop) (fl : Fl) (ρ : MEnv) (st : Sto) : Prop := match fl with
  | .nx => WpS (f ρ st) PS
  | fl => PS fl ρ st
@[simp] theorem thn_nx {f : DS} : Thn f PS .nx ρ st = WpS (f ρ st) PS := id rfl
@[simp] theorem thn_rt {f : DS} {v : MV} : Thn f PS (.rt v) ρ st = PS (.rt v) ρ st := id rfl
@[simp] theorem thn_bk {f : DS} : Thn f PS .bk ρ st = PS .bk ρ st := id rfl
@[simp] theorem thn_ct {f : DS} : Thn f PS .ct ρ st = PS .ct ρ st := id rfl
@[simp] theorem thn_exc {f : DS} {x : MX} : Thn f PS (.exc x) ρ st = PS (.exc x) ρ st := id rfl
theorem wps_sqn {r : SR} {f : DS} : WpS (sqn r f) PS = WpS r (Thn f PS) := by
  match r with
  | none => rfl
  | some (.nx, ρ, st) => rfl
  | some (.rt v, ρ, st) => rfl
  | some (.bk, ρ, st) => rfl
  | some (.ct, ρ, st) => rfl
  | some (.exc x, ρ, st) => rfl
theorem WpS.imp {r : SR} {PS PS' : Fl → MEnv → Sto → Prop} (h : WpS r PS) (k : ∀ f ρ st, PS f ρ st → PS' f ρ st) : WpS r PS' := by
  match r, h with
  | none, h => exact h
  | some (f, ρ, st), h => exact k _ _ _ h
@[simp] theorem e_var {i : Nat} {P : MV → Sto → Prop} : Wp (eVar i ρ st) P X = match ρ[i]? with | some (some v) => P v st | _ => False := by
  unfold eVar
  generalize ρ[i]? = o
  match o with
  | none => rfl
  | some none => rfl
  | some (some v) => rfl
@[simp] theorem e_c {v : MV} {P : MV → Sto → Prop} : Wp (eC v ρ st) P X = P v st := id rfl
@[simp] theorem e_op {g : MV → MV → Sto → R MV} {fa fb : DE} {P : MV → Sto → Prop} : Wp (eOp g fa fb ρ st) P X = Wp (fa ρ st) (fun x st1 => Wp (fb ρ st1) (fun y st2 => Wp (g x y st2) P X) X) X := by unfold eOp; simp only [wp_bnd]
@[simp] theorem e_un {g : MV → Sto → R MV} {fa : DE} {P : MV → Sto → Prop} : Wp (eUn g fa ρ st) P X = Wp (fa ρ st) (fun x st1 => Wp (g x st1) P X) X := by unfold eUn; simp only [wp_bnd]
def chB (z : MV) (a b : R MV) : R MV := match z with
  | .bl true => a
  | .bl false => b
  | _ => none
@[simp] theorem chB_bl {k : Bool} {a b : R MV} : chB (.bl k) a b = if k then a else b := by cases k <;> rfl
@[simp] theorem e_ch {g g' : MV → MV → Sto → R MV} {fa fb fc : DE} {P : MV → Sto → Prop} : Wp (eCh g g' fa fb fc ρ st) P X = Wp (fa ρ st) (fun x st1 => Wp (fb ρ st1) (fun y st2 => Wp (g x y st2) (fun z st3 => Wp (chB z (bnd (fc ρ st3) fun w st4 => g' y w st4) (ret (.bl false) st3)) P X) X) X) X := by unfold eCh; simp only [wp_bnd] <;> rfl
@[simp] theorem e_call {g : List MV → Sto → R MV} {fa : DA} {P : MV → Sto → Prop} : Wp (eCall g fa ρ st) P X = Wp (fa ρ st) (fun xs st1 => Wp (g xs st1) P X) X := by unfold eCall; simp only [wp_bnd]
@[simp] theorem e_callK {g : List MV → List MV → Sto → R MV} {fa fk : DA} {P : MV → Sto → Prop} : Wp (eCallK g fa fk ρ st) P X = Wp (fa ρ st) (fun xs st1 => Wp (fk ρ st1) (fun zs st2 => Wp (g xs zs st2) P X) X) X := by unfold eCallK; simp only [wp_bnd]
@[simp] theorem a_nil {P : List MV → Sto → Prop} : Wp (aNil ρ st) P X = P [] st := id rfl
@[simp] theorem a_cons {fa : DE} {g : DA} {P : List MV → Sto → Prop} : Wp (aCons fa g ρ st) P X = Wp (fa ρ st) (fun x st1 => Wp (g ρ st1) (fun xs st2 => P (x :: xs) st2) X) X := by unfold aCons; simp only [wp_bnd, wp_ret]
@[simp] theorem e_tup {g : DA} {P : MV → Sto → Prop} : Wp (eTup g ρ st) P X = Wp (g ρ st) (fun xs st1 => if xs.length ≤ sizeLine then P (.tup xs) st1 else False) X := by unfold eTup; simp only [wp_bnd, wp_ite, wp_ret, wp_none]
@[simp] theorem e_lst {g : DA} {P : MV → Sto → Prop} : Wp (eLst g ρ st) P X = Wp (g ρ st) (fun xs st1 => if xs.length ≤ sizeLine then P (.ref st1.length) (st1 ++ [.lst xs]) else False) X := by unfold eLst; simp only [wp_bnd, wp_ite, wp_ret, wp_none]
@[simp] theorem e_as {f : DE} {P : Bool → Sto → Prop} : Wp (asB f ρ st) P X = Wp (f ρ st) (fun x st1 => Wp (match x with | .bl k => ret k st1 | _ => none) P X) X := by unfold asB; simp only [wp_bnd] <;> rfl
@[simp] theorem e_tru {f : DE} {P : Bool → Sto → Prop} : Wp (bTru f ρ st) P X = Wp (f ρ st) (fun x st1 => Wp (match truM x st1 with | some k => ret k st1 | none => none) P X) X := by unfold bTru; simp only [wp_bnd] <;> rfl
@[simp] theorem b_and {p q : DB} {P : Bool → Sto → Prop} : Wp (bAnd p q ρ st) P X = Wp (p ρ st) (fun k st1 => if k then Wp (q ρ st1) P X else P false st1) X := by unfold bAnd; simp only [wp_bnd, wp_ite, wp_ret]
@[simp] theorem b_or {p q : DB} {P : Bool → Sto → Prop} : Wp (bOr p q ρ st) P X = Wp (p ρ st) (fun k st1 => if k then P true st1 else Wp (q ρ st1) P X) X := by unfold bOr; simp only [wp_bnd, wp_ite, wp_ret]
@[simp] theorem b_not {p : DB} {P : Bool → Sto → Prop} : Wp (bNot p ρ st) P X = Wp (p ρ st) (fun k st1 => P (!k) st1) X := by unfold bNot; simp only [wp_bnd, wp_ret]
def triB {α : Type} (o : Option Bool) (a b : R α) : R α := match o with
  | some true => a
  | some false => b
  | none => none
@[simp] theorem triB_some {α : Type} {k : Bool} {a b : R α} : triB (some k) a b = if k then a else b := by cases k <;> rfl
@[simp] theorem e_and {fa fb : DE} {P : MV → Sto → Prop} : Wp (eAnd fa fb ρ st) P X = Wp (fa ρ st) (fun x st1 => Wp (triB (truM x st1) (fb ρ st1) (ret x st1)) P X) X := by unfold eAnd; simp only [wp_bnd] <;> rfl
@[simp] theorem e_or {fa fb : DE} {P : MV → Sto → Prop} : Wp (eOr fa fb ρ st) P X = Wp (fa ρ st) (fun x st1 => Wp (triB (truM x st1) (ret x st1) (fb ρ st1)) P X) X := by
  unfold eOr
  simp only [wp_bnd]
  rfl
@[simp] theorem e_not {fa : DE} {P : MV → Sto → Prop} : Wp (eNot fa ρ st) P X = Wp (fa ρ st) (fun x st1 => Wp (match truM x st1 with | some k => ret (.bl (!k)) st1 | none => none) P X) X := by unfold eNot; simp only [wp_bnd] <;> rfl
@[simp] theorem e_if {p : DB} {fa fb : DE} {P : MV → Sto → Prop} : Wp (eIf p fa fb ρ st) P X = Wp (p ρ st) (fun k st1 => if k then Wp (fa ρ st1) P X else Wp (fb ρ st1) P X) X := by unfold eIf; simp only [wp_bnd, wp_ite]
@[simp] theorem e_new {f : DA} {P : MV → Sto → Prop} : Wp (eNew f ρ st) P X = Wp (f ρ st) (fun xs st1 => P (.ref st1.length) (st1 ++ [.lst xs])) X := by unfold eNew; simp only [wp_bnd, wp_ret]
@[simp] theorem e_fu {g : List MV → Sto → R MV} {f : DA} {P : MV → Sto → Prop} : Wp (eFu g f ρ st) P X = Wp (f ρ st) (fun xs st1 => Wp (g xs st1) P X) X := by unfold eFu; simp only [wp_bnd]
@[simp] theorem o_none {P : Option Int → Sto → Prop} : Wp (oNone ρ st) P X = P none st := id rfl
@[simp] theorem o_some {f : DE} {P : Option Int → Sto → Prop} : Wp (oSome f ρ st) P X = Wp (f ρ st) (fun x st1 => Wp (match x with | .int i => ret (some i) st1 | _ => none) P X) X := by unfold oSome; simp only [wp_bnd] <;> rfl
@[simp] theorem e_sl {fa : DE} {fl fh : DO} {P : MV → Sto → Prop} : Wp (eSl fa fl fh ρ st) P X = Wp (fa ρ st) (fun x st1 => Wp (fl ρ st1) (fun lo st2 => Wp (fh ρ st2) (fun hi st3 => Wp (slM x lo hi st3) P X) X) X) X := by unfold eSl; simp only [wp_bnd]
@[simp] theorem e_fld {ks : List Nat} {f : Str} {fa : DE} {P : MV → Sto → Prop} : Wp (eFld ks f fa ρ st) P X = Wp (fa ρ st) (fun x st1 => Wp (match x with
    | .ref i => (match st1[i]? with
      | some (.ins k fs) => if ks.contains k then (match fs.lookup f with | some v => ret v st1 | none => none) else none
      | _ => none)
    | _ => none) P X) X := by unfold eFld; simp only [wp_bnd] <;> rfl
@[simp] theorem e_mth {t : Tb} {m : Str} {fo : DE} {fa : DA} {P : MV → Sto → Prop} : Wp (eMth t m fo fa ρ st) P X = Wp (fo ρ st) (fun x st1 => Wp (match x with
    | .ref i => (match st1[i]? with
      | some (.ins k fs) => (match t.lookup k, fs.lookup m with
        | some g, none => bnd (fa ρ st1) fun xs st2 => g (x :: xs) st2
        | _, _ => none)
      | _ => none)
    | _ => none) P X) X := by unfold eMth; simp only [wp_bnd] <;> rfl
@[simp] theorem s_nx : WpS (sNx ρ st) PS = PS .nx ρ st := id rfl
@[simp] theorem s_bk : WpS (sBk ρ st) PS = PS .bk ρ st := id rfl
@[simp] theorem s_ct : WpS (sCt ρ st) PS = PS .ct ρ st := id rfl
@[simp] theorem s_no : WpS (sNo ρ st) PS = False := id rfl
@[simp] theorem s_rn : WpS (sRn ρ st) PS = PS (.rt .non) ρ st := id rfl
@[simp] theorem s_sq {f g : DS} : WpS (sSq f g ρ st) PS = WpS (f ρ st) (Thn g PS) := by unfold sSq; exact wps_sqn
@[simp] theorem s_rt {f : DE} : WpS (sRt f ρ st) PS = Wp (f ρ st) (fun x st1 => PS (.rt x) ρ st1) (fun x st => PS (.exc x) ρ st) := by unfold sRt; simp only [wps_sb, wps_some]
@[simp] theorem s_ex {f : DE} : WpS (sEx f ρ st) PS = Wp (f ρ st) (fun x st1 => PS .nx ρ st1) (fun x st => PS (.exc x) ρ st) := by unfold sEx; simp only [wps_sb, wps_some]
@[simp] theorem s_if {p : DB} {f g : DS} : WpS (sIf p f g ρ st) PS = Wp (p ρ st) (fun k st1 => if k then WpS (f ρ st1) PS else WpS (g ρ st1) PS) (fun x st => PS (.exc x) ρ st) := by unfold sIf; simp only [wps_sb, wps_ite]
@[simp] theorem s_as {f : DE} {g : DG} : WpS (sAs f g ρ st) PS = Wp (f ρ st) (fun x st1 => WpS (g x ρ st1) PS) (fun x st => PS (.exc x) ρ st) := by unfold sAs; simp only [wps_sb]
@[simp] theorem s_pr {i j : Nat} {f : DA} : WpS (sPr i j f ρ st) PS = Wp (f ρ st) (fun xs st1 => WpS (match xs with | [v, w] => some (.nx, (ρ.set i (some v)).set j (some w), st1) | _ => none) PS) (fun x st => PS (.exc x) ρ st) := by unfold sPr; simp only [wps_sb] <;> rfl
@[simp] theorem s_lc {i : Nat} {f : DA} : WpS (sLc i f ρ st) PS = Wp (f ρ st) (fun xs st1 => PS .nx (ρ.set i (some (.ref st1.length))) (st1 ++ [.lst xs])) (fun x st => PS (.exc x) ρ st) := by unfold sLc; simp only [wps_sb, wps_some]
@[simp] theorem s_fl {ks : List Nat} {f : Str} {fo fv : DE} : WpS (sFl ks f fo fv ρ st) PS = Wp (fv ρ st) (fun y st1 => Wp (fo ρ st1) (fun x st2 => WpS (match x with
    | .ref i => (match st2[i]? with
      | some (.ins k fs) => if ks.contains k && decide (fs.length < 1000) then some (.nx, ρ, st2.set i (.ins k (putM f y fs))) else none
      | _ => none)
    | _ => none) PS) (fun x st => PS (.exc x) ρ st)) (fun x st => PS (.exc x) ρ st) := by unfold sFl; simp only [wps_sb] <;> rfl
@[simp] theorem s_for {f : DI} {g : DG} {b : DS} : WpS (sFor f g b ρ st) PS = Wp (f ρ st) (fun it st1 => WpS (forM it g b it.cnt 0 ρ st1) PS) (fun x st => PS (.exc x) ρ st) := by unfold sFor; simp only [wps_sb]
@[simp] theorem g_nm {i : Nat} {v : MV} : WpS (gNm i v ρ st) PS = PS .nx (ρ.set i (some v)) st := id rfl
@[simp] theorem g_nl : WpS (gNl [] ρ st) PS = PS .nx ρ st := id rfl
@[simp] theorem g_cn {g : DG} {gs : DGs} {x : MV} {xs : List MV} : WpS (gCn g gs (x :: xs) ρ st) PS = WpS (g x ρ st) (Thn (gs xs) PS) := wps_sqn
@[simp] theorem g_tp {gs : DGs} {n : Nat} {xs : List MV} : WpS (gTp gs n (.tup xs) ρ st) PS = if xs.length = n then WpS (gs xs ρ st) PS else False := by unfold gTp; simp only [wps_ite, wps_none]
@[simp] theorem g_sb {fo fi : DE} {v : MV} : WpS (gSb fo fi v ρ st) PS = Wp (fo ρ st) (fun o st1 => Wp (fi ρ st1) (fun i st2 => WpS (match setM o i v st2 with | some st3 => some (.nx, ρ, st3) | none => none) PS) (fun x st => PS (.exc x) ρ st)) (fun x st => PS (.exc x) ρ st) := by unfold gSb; simp only [wps_sb] <;> rfl
@[simp] theorem i_sq {f : DE} {P : IM → Sto → Prop} : Wp (iSq f ρ st) P X = Wp (f ρ st) (fun x st1 => Wp (match isOf x st1 with | some s => ret (.sq s) st1 | none => none) P X) X := by unfold iSq; simp only [wp_bnd] <;> rfl
@[simp] theorem i_r1 {f : DA} {P : IM → Sto → Prop} : Wp (iR1 f ρ st) P X = Wp (f ρ st) (fun xs st1 => Wp (match xs with
    | [.int j] => if -(2 ^ 62) ≤ j ∧ j < 2 ^ 62 then ret (.rng 0 j.toNat) st1 else none
    | _ => none) P X) X := by unfold iR1; simp only [wp_bnd, inR_iff] <;> rfl
@[simp] theorem i_r2 {f : DA} {P : IM → Sto → Prop} : Wp (iR2 f ρ st) P X = Wp (f ρ st) (fun xs st1 => Wp (match xs with
    | [.int i, .int j] => if -(2 ^ 62) ≤ i ∧ i < 2 ^ 62 ∧ -(2 ^ 62) ≤ j ∧ j < 2 ^ 62 then ret (.rng i (j - i).toNat) st1 else none
    | _ => none) P X) X := by unfold iR2; simp only [wp_bnd, inR_iff, and_assoc] <;> rfl
@[simp] theorem i_en {f : DA} {P : IM → Sto → Prop} : Wp (iEn f ρ st) P X = Wp (f ρ st) (fun xs st1 => Wp (match xs with | [x] => (match isOf x st1 with | some s => ret (.en s) st1 | none => none) | _ => none) P X) X := by unfold iEn; simp only [wp_bnd] <;> rfl
@[simp] theorem i_zp {f : DA} {P : IM → Sto → Prop} : Wp (iZp f ρ st) P X = Wp (f ρ st) (fun xs st1 => Wp (match xs with | [x, y] => (match isOf x st1, isOf y st1 with | some s, some s' => ret (.zp s s') st1 | _, _ => none) | _ => none) P X) X := by unfold iZp; simp only [wp_bnd] <;> rfl
@[simp] theorem e_lc {fi : DI} {t : CT} {p : DB} {f : DE} {vs : List Nat} {P : List MV → Sto → Prop} : Wp (eLc fi t p f vs ρ st) P X = Wp (fi ρ st) (fun it st1 => if it.cnt ≤ sizeLine then Wp (lcM it t p f it.cnt 0 (wipeM ρ vs) st1) P X else False) X := by unfold eLc; simp only [wp_bnd, wp_ite, wp_none]
end
theorem wp_for {it : IM} {g : DG} {b : DS} {PS : Fl → MEnv → Sto → Prop} (I : Nat → MEnv → Sto → Prop) {ρ : MEnv} {st : Sto} (h0 : I 0 ρ st)
    (hs : ∀ i ρ st, i < it.cnt → I i ρ st → ∃ x, it.get i st = some x ∧ WpS (g x ρ st) (Thn (fun ρ1 st1 => b ρ1 st1) fun fl ρ2 st2 => match fl with
      | .nx => I (i + 1) ρ2 st2
      | .ct => I (i + 1) ρ2 st2
      | .bk => PS .nx ρ2 st2
      | fl => PS fl ρ2 st2))
    (hg : Goes g) (hn : ∀ ρ st, I it.cnt ρ st → it.fin st = true ∧ PS .nx ρ st) : WpS (forM it g b it.cnt 0 ρ st) PS := by
  have key : ∀ n i ρ st, i + n = it.cnt → I i ρ st → WpS (forM it g b n i ρ st) PS := by
    intro n
    induction n with
    | zero =>
      intro i ρ st hi h
      obtain ⟨h1, h2⟩ := hn ρ st (by rw [← hi]; exact h)
      unfold forM
      rw [if_pos h1]
      exact h2
    | succ n ih =>
      intro i ρ st hi h
      obtain ⟨x, hx, w⟩ := hs i ρ st (by omega) h
      unfold forM
      simp only [hx]
      revert w
      cases q : g x ρ st with
      | none => exact fun w => w
      | some r =>
        obtain ⟨fl, ρ1, st1⟩ := r
        intro w
        rcases hg _ _ _ _ _ _ q with rfl | ⟨e, rfl⟩
        · have w : WpS (b ρ1 st1) _ := w
          show WpS (aft (b ρ1 st1) (forM it g b n (i + 1))) PS
          revert w
          cases q2 : b ρ1 st1 with
          | none => exact fun w => w
          | some r =>
            obtain ⟨fl, ρ2, st2⟩ := r
            intro w
            cases fl with
            | nx => exact ih (i + 1) ρ2 st2 (by omega) w
            | ct => exact ih (i + 1) ρ2 st2 (by omega) w
            | bk => exact w
            | rt v => exact w
            | exc e => exact w
        · exact w
  exact key _ 0 ρ st (by omega) h0
theorem wp_lc {it : IM} {t : CT} {p : DB} {f : DE} {ρ : MEnv} {st : Sto} {X : MX → Sto → Prop} {P : List MV → Sto → Prop} (I : Nat → List MV → Sto → Prop) (h0 : I 0 [] st)
    (hs : ∀ i acc st, i < it.cnt → I i acc st → ∃ x ρ1, it.get i st = some x ∧ ctM t x ρ = some ρ1 ∧ Wp (p ρ1 st) (fun k st1 => if k then Wp (f ρ1 st1) (fun y st2 => I (i + 1) (acc ++ [y]) st2) else I (i + 1) acc st1))
    (hn : ∀ acc st, I it.cnt acc st → it.fin st = true ∧ P acc st) : Wp (lcM it t p f it.cnt 0 ρ st) P X := by
  have key : ∀ n i acc st, i + n = it.cnt → I i acc st → Wp (lcM it t p f n i ρ st) (fun xs st1 => P (acc ++ xs) st1) := by
    intro n
    induction n with
    | zero =>
      intro i acc st hi h
      obtain ⟨h1, h2⟩ := hn acc st (by rw [← hi]; exact h)
      unfold lcM
      rw [if_pos h1, wp_ret, List.append_nil]
      exact h2
    | succ n ih =>
      intro i acc st hi h
      obtain ⟨x, ρ1, hx, h1, w⟩ := hs i acc st (by omega) h
      unfold lcM
      simp only [hx, h1, wp_bndN]
      refine Wp.imp w fun k st1 w => ?_
      cases k with
      | false =>
        simp only [Bool.false_eq_true, if_false] at w ⊢
        exact ih (i + 1) acc st1 (by omega) w
      | true =>
        simp only [if_true, wp_bndN, wp_ret] at w ⊢
        refine Wp.imp w fun y st2 w => ?_
        have q := ih (i + 1) (acc ++ [y]) st2 (by omega) w
        simpa only [List.append_assoc, List.singleton_append] using q
  have q := key it.cnt 0 [] st (by omega) h0
  simp only [List.nil_append] at q
  exact q.quiet fun _ _ z => z
@[simp] theorem b_yes {ρ : MEnv} {st : Sto} {P : Bool → Sto → Prop} {X : MX → Sto → Prop} : Wp (bYes ρ st) P X = P true st := id rfl
theorem wp_forN {it : IM} {g : DG} {b : DS} {PS : Fl → MEnv → Sto → Prop} {n : Nat} (hn : it.cnt = n) (I : Nat → MEnv → Sto → Prop) {ρ : MEnv} {st : Sto} (h0 : I 0 ρ st)
    (hg : Goes g) (hs : ∀ i ρ st, i < n → I i ρ st → ∃ x, it.get i st = some x ∧ WpS (g x ρ st) (Thn (fun ρ1 st1 => b ρ1 st1) fun fl ρ2 st2 => match fl with
      | .nx => I (i + 1) ρ2 st2
      | .ct => I (i + 1) ρ2 st2
      | .bk => PS .nx ρ2 st2
      | fl => PS fl ρ2 st2))
    (he : ∀ ρ st, I n ρ st → it.fin st = true ∧ PS .nx ρ st) : WpS (forM it g b n 0 ρ st) PS := by
  subst hn
  exact wp_for I h0 hs hg he
theorem wp_lcN {it : IM} {t : CT} {p : DB} {f : DE} {ρ : MEnv} {st : Sto} {X : MX → Sto → Prop} {P : List MV → Sto → Prop} {n : Nat} (hn : it.cnt = n) (I : Nat → List MV → Sto → Prop) (h0 : I 0 [] st)
    (hs : ∀ i acc st, i < n → I i acc st → ∃ x ρ1, it.get i st = some x ∧ ctM t x ρ = some ρ1 ∧ Wp (p ρ1 st) (fun k st1 => if k then Wp (f ρ1 st1) (fun y st2 => I (i + 1) (acc ++ [y]) st2) else I (i + 1) acc st1))
    (he : ∀ acc st, I n acc st → it.fin st = true ∧ P acc st) : Wp (lcM it t p f n 0 ρ st) P X := by
  subst hn
  exact wp_lc I h0 hs he
end CS
namespace CS
open PySem L2
section
variable {P : MV → Sto → Prop} {X : MX → Sto → Prop}
def FinP (st : Sto) (P : MV → Sto → Prop) (X : MX → Sto → Prop) (fl : Fl) (_ : MEnv) (st' : Sto) : Prop := match fl with
  | .nx => P .non (gcS st st')
  | .rt v => P v (if lowV st.length v then gcS st st' else st')
  | .exc x => X x (if lowX st.length x then gcS st st' else st')
  | _ => False
@[simp] theorem finP_nx {st st' : Sto} {ρ : MEnv} : FinP st P X .nx ρ st' = P .non (gcS st st') := id rfl
@[simp] theorem finP_rt {st st' : Sto} {ρ : MEnv} {v : MV} : FinP st P X (.rt v) ρ st' = P v (if lowV st.length v then gcS st st' else st') := id rfl
@[simp] theorem finP_exc {st st' : Sto} {ρ : MEnv} {x : MX} : FinP st P X (.exc x) ρ st' = X x (if lowX st.length x then gcS st st' else st') := id rfl
theorem wp_def {n : Nat} {d : DS} {args : List MV} {st : Sto} : Wp (defM n d args st) P X = WpS (d (start n args) st) (FinP st P X) := by
  unfold defM
  cases q : d (start n args) st with
  | none => rfl
  | some r =>
    obtain ⟨fl, ρ, st'⟩ := r
    cases fl with
    | nx => rfl
    | bk => rfl
    | ct => rfl
    | rt v =>
      show Wp (if lowV st.length v then ret v (gcS st st') else ret v st') P X = P v (if lowV st.length v then gcS st st' else st')
      split <;> rfl
    | exc x =>
      show Wp (if lowX st.length x then some (.error x, gcS st st') else some (.error x, st')) P X = X x (if lowX st.length x then gcS st st' else st')
      split <;> rfl
theorem wp_sem {D : List DefT} {den : Dn} {k j : Nat} {C : CE} {d : DefT} {args : List MV} {st : Sto} (h : D[j]? = some d) (hj : j < 1000) (w : WpS (den j (svAt D den k C) (start d.N.length args) st) (FinP st P X)) : Wp (semL D den (k + 1) C j args st) P X := by
  rw [sem_at h hj, wp_def]
  exact w
@[simp] theorem gc_same {st : Sto} : gcS st st = st := by
  unfold gcS
  split
  · simp
  · rfl
@[simp] theorem gc_app {st t : Sto} : gcS st (st ++ t) = st := by
  have h : gcOk st (st ++ t) = true := by
    unfold gcOk
    rw [List.all_eq_true]
    intro i hi
    have hi := List.mem_range.mp hi
    rw [List.getElem?_append_left hi]
    simp only [List.getElem?_eq_getElem hi, eqO_refl, Bool.true_or]
  unfold gcS
  rw [if_pos h, List.take_left]
theorem wp_eq {α : Type} {r : R α} {a : α} {st : Sto} (h : Wp r fun b st' => b = a ∧ st' = st) : r = ret a st := by
  obtain ⟨b, st', e, rfl, rfl⟩ := h.get
  exact e
theorem def_eq {n : Nat} {d : DS} {args : List MV} {st : Sto} {v : MV} (hv : lowV st.length v = true) (w : WpS (d (start n args) st) (fun fl _ st' => fl = .rt v ∧ ∃ t, st' = st ++ t)) : defM n d args st = ret v st := by
  refine wp_eq (wp_def.symm ▸ WpS.imp w fun fl ρ st' hq => ?_)
  obtain ⟨rfl, t, rfl⟩ := hq
  rw [finP_rt, if_pos hv, gc_app]
  exact ⟨rfl, rfl⟩
theorem def_eqN {n : Nat} {d : DS} {args : List MV} {st : Sto} (w : WpS (d (start n args) st) (fun fl _ st' => fl = .nx ∧ ∃ t, st' = st ++ t)) : defM n d args st = ret .non st := by
  refine wp_eq (wp_def.symm ▸ WpS.imp w fun fl ρ st' hq => ?_)
  obtain ⟨rfl, t, rfl⟩ := hq
  rw [finP_nx, gc_app]
  exact ⟨rfl, rfl⟩
end
theorem set_get {st : Sto} {i : Nat} {o o' : MO} (h : st[i]? = some o) : (st.set i o')[i]? = some o' := List.getElem?_set_self (List.getElem?_eq_some_iff.mp h).1
theorem gc_len {st st' : Sto} (h : st'.length = st.length) : gcS st st' = st' := by
  unfold gcS
  split
  · rw [List.take_of_length_le (by omega)]
  · rfl
@[simp] theorem gc_set {st : Sto} {i : Nat} {o : MO} : gcS st (st.set i o) = st.set i o := gc_len (by simp)
def JugAt (j : Nat) (st : Sto) : Prop := ∃ a b c : Int, st[j]? = some (.lst [.int a, .int b, .int c])
structure Jg (j : Nat) (st st' : Sto) : Prop where
  le : st.length ≤ st'.length
  at_ : ∀ i, i < st.length → i ≠ j → st'[i]? = st[i]?
  jug : JugAt j st'
theorem JugAt.lt {j : Nat} {st : Sto} (h : JugAt j st) : j < st.length := by
  obtain ⟨a, b, c, h⟩ := h
  exact (List.getElem?_eq_some_iff.mp h).1
theorem Jg.refl {j : Nat} {st : Sto} (h : JugAt j st) : Jg j st st := ⟨Nat.le_refl _, fun _ _ _ => rfl, h⟩
theorem Jg.trans {j : Nat} {st st1 st2 : Sto} (h : Jg j st st1) (k : Jg j st1 st2) : Jg j st st2 :=
  ⟨Nat.le_trans h.le k.le, fun i hi hj => (k.at_ i (Nat.lt_of_lt_of_le hi h.le) hj).trans (h.at_ i hi hj), k.jug⟩
theorem Jg.app {j : Nat} {st st1 : Sto} (h : Jg j st st1) (t : Sto) : Jg j st (st1 ++ t) := by
  refine ⟨by rw [List.length_append]; have := h.le; omega, fun i hi hj => ?_, ?_⟩
  · rw [List.getElem?_append_left (Nat.lt_of_lt_of_le hi h.le)]
    exact h.at_ i hi hj
  · obtain ⟨a, b, c, e⟩ := h.jug
    exact ⟨a, b, c, by rw [List.getElem?_append_left (JugAt.lt h.jug)]; exact e⟩
theorem Jg.gc {j : Nat} {st st1 : Sto} (h : Jg j st st1) (hj : j < st.length) : Jg j st (gcS st st1) := by
  unfold gcS
  split
  · refine ⟨by rw [List.length_take]; have := h.le; omega, fun i hi hne => ?_, ?_⟩
    · rw [List.getElem?_take_of_lt hi]; exact h.at_ i hi hne
    · obtain ⟨a, b, c, e⟩ := h.jug
      exact ⟨a, b, c, by rw [List.getElem?_take_of_lt hj]; exact e⟩
  · exact h
theorem Jg.gcI {j : Nat} {st st1 : Sto} {c : Prop} [Decidable c] (h : Jg j st st1) (hj : j < st.length) : Jg j st (if c then gcS st st1 else st1) := by
  split
  · exact h.gc hj
  · exact h
theorem Jg.set {j : Nat} {st : Sto} (h : j < st.length) (a b c : Int) : Jg j st (st.set j (.lst [.int a, .int b, .int c])) := by
  refine ⟨by simp, fun i hi hne => ?_, a, b, c, by simp [h]⟩
  rw [List.getElem?_set_ne (Ne.symm hne)]
theorem Jg.look {j i : Nat} {st st1 : Sto} {o : MO} (h : Jg j st st1) (hi : st[i]? = some o) (hne : i ≠ j) : st1[i]? = some o := by
  rw [h.at_ i (List.getElem?_eq_some_iff.mp hi).1 hne]
  exact hi
end CS
namespace CS
open PySem L2
section
variable {i j : Int} {a b : Bool} {x y : Str} {xs ys : List MV} {st : Sto} {n : Nat}
@[simp] theorem m_add : addM (.int i) (.int j) st = ret (.int (i + j)) st := rfl
@[simp] theorem m_addS : addM (.str x) (.str y) st = if x.length + y.length ≤ sizeLine then ret (.str (x ++ y)) st else none := rfl
@[simp] theorem m_addT : addM (.tup xs) (.tup ys) st = if xs.length + ys.length ≤ sizeLine then ret (.tup (xs ++ ys)) st else none := rfl
@[simp] theorem m_sub : subM (.int i) (.int j) st = ret (.int (i - j)) st := rfl
theorem m_mulL (h : i.natAbs < 2 ^ 64) : mulM (.int i) (.int j) st = ret (.int (i * j)) st := if_pos (.inl h)
theorem m_mulR (h : j.natAbs < 2 ^ 64) : mulM (.int i) (.int j) st = ret (.int (i * j)) st := if_pos (.inr (.inl h))
theorem m_div (h : 0 < j) (h2 : j.natAbs < 2 ^ 64) : divM (.int i) (.int j) st = ret (.int (i / j)) st := by
  refine if_pos ⟨h, ?_⟩
  have : j.natAbs.log2 < 64 := by
    rw [Nat.log2_lt (by omega)]
    exact h2
  omega
theorem m_mod (h : 0 < j) : modM (.int i) (.int j) st = ret (.int (i % j)) st := if_pos h
@[simp] theorem m_neg : negM (.int i) st = ret (.int (-i)) st := rfl
theorem m_pow (h : 0 ≤ j ∧ j ≤ 1000000 ∧ i.natAbs < 2 ^ 64) : powM (.int i) (.int j) st = ret (.int (i ^ j.toNat)) st := if_pos h
@[simp] theorem m_lt : ltM (.int i) (.int j) st = ret (.bl (decide (i < j))) st := rfl
@[simp] theorem m_le : leM (.int i) (.int j) st = ret (.bl (decide (i ≤ j))) st := rfl
@[simp] theorem m_gt : gtM (.int i) (.int j) st = ret (.bl (decide (j < i))) st := rfl
@[simp] theorem m_ge : geM (.int i) (.int j) st = ret (.bl (decide (j ≤ i))) st := rfl
@[simp] theorem m_abs : absM [.int i] st = ret (.int (if i < 0 then -i else i)) st := rfl
@[simp] theorem m_int : intM [.int i] st = ret (.int i) st := rfl
@[simp] theorem m_max : maxM [.int i, .int j] st = ret (.int (if j > i then j else i)) st := rfl
@[simp] theorem m_min : minM [.int i, .int j] st = ret (.int (if j < i then j else i)) st := rfl
theorem m_str (h : i.natAbs.log2 < 1920) : strM [.int i] st = ret (.str (toString i)) st := if_pos h
theorem m_divmod (h : 0 < j ∧ j < 1073741824) : divmodM [.int i, .int j] st = ret (.tup [.int (i / j), .int (i % j)]) st := if_pos h
@[simp] theorem m_lenT : lenM [.tup xs] st = ret (MV.int xs.length) st := rfl
theorem m_lenR {k : Nat} (h : listOf st k = some xs) : lenM [.ref k] st = ret (MV.int xs.length) st := by
  show (match (listOf st k).map fun xs => (xs.length : Int) with | some n => ret (MV.int n) st | none => none) = _
  rw [h]
  rfl
theorem list_at {k : Nat} (h : st[k]? = some (.lst xs)) : listOf st k = some xs := by unfold listOf; rw [h]
theorem list_fr {k : Nat} (h : st[k]? = some (.frz xs)) : listOf st k = some xs := by unfold listOf; rw [h]
@[simp] theorem own_int {t : Tb} : ownG t (.int i) st = none := rfl
@[simp] theorem own_tup {t : Tb} : ownG t (.tup xs) st = none := rfl
@[simp] theorem own_str {t : Tb} : ownG t (.str x) st = none := rfl
@[simp] theorem own_bl {t : Tb} : ownG t (.bl a) st = none := rfl
@[simp] theorem own_non {t : Tb} : ownG t .non st = none := rfl
theorem own_lst {t : Tb} {k : Nat} {xs : List MV} (h : listOf st k = some xs) : ownG t (.ref k) st = none := by
  unfold ownG
  unfold listOf at h
  split at h
  · rename_i q; simp only [q]
  · rename_i q; simp only [q]
  · cases h
theorem own_ins {t : Tb} {k c : Nat} {fs : List (Str × MV)} (h : st[k]? = some (.ins c fs)) : ownG t (.ref k) st = t.lookup c := by unfold ownG; simp only [h]
@[simp] theorem m_lenIT {t : Tb} : lenI t [.tup xs] st = ret (MV.int xs.length) st := rfl
theorem m_lenIR {t : Tb} {k : Nat} (h : listOf st k = some xs) : lenI t [.ref k] st = ret (MV.int xs.length) st := by
  show (match ownG t (.ref k) st with | some g => _ | none => lenM [.ref k] st) = _
  rw [own_lst h]
  exact m_lenR h
theorem at_nat {α : Type} {l : List α} {v : α} {m : Nat} (h : l[m]? = some v) : atI l (m : Int) = some v := by
  have hl := (List.getElem?_eq_some_iff.mp h).1
  unfold atI ixN
  rw [if_pos (by omega), if_pos (by omega)]
  simpa using h
theorem at_int {α : Type} {l : List α} {v : α} {k : Int} (h0 : 0 ≤ k) (h : l[k.toNat]? = some v) : atI l k = some v := by
  have := at_nat h
  rwa [Int.toNat_of_nonneg h0] at this
theorem m_ixT {k : Int} {v : MV} (h : atI xs k = some v) : ixM (.tup xs) (.int k) st = ret v st := by unfold ixM; simp only [h]
theorem m_ixR {k : Int} {r : Nat} {v : MV} (h : listOf st r = some xs) (h2 : atI xs k = some v) : ixM (.ref r) (.int k) st = ret v st := by unfold ixM; simp only [h, h2]
@[simp] theorem m_ixT0 {v : MV} : ixM (.tup (v :: xs)) (.int 0) st = ret v st := m_ixT (at_int (by decide) rfl)
@[simp] theorem m_ixT1 {u v : MV} : ixM (.tup (u :: v :: xs)) (.int 1) st = ret v st := m_ixT (at_int (by decide) rfl)
@[simp] theorem m_ixT2 {u v w : MV} : ixM (.tup (u :: v :: w :: xs)) (.int 2) st = ret w st := m_ixT (at_int (by decide) rfl)
@[simp] theorem m_ixT3 {u v w z : MV} : ixM (.tup (u :: v :: w :: z :: xs)) (.int 3) st = ret z st := m_ixT (at_int (by decide) rfl)
@[simp] theorem ty_int : tyM (.int i) st = some (.b "int") := rfl
@[simp] theorem ty_bl : tyM (.bl a) st = some (.b "bool") := rfl
@[simp] theorem ty_str : tyM (.str x) st = some (.b "str") := rfl
@[simp] theorem ty_non : tyM .non st = some (.b "NoneType") := rfl
@[simp] theorem ty_tup : tyM (.tup xs) st = some (.b "tuple") := rfl
theorem ty_lst {k : Nat} (h : listOf st k = some xs) : tyM (.ref k) st = some (.b "list") := by
  unfold listOf at h
  unfold tyM
  split at h
  · rename_i q; simp only [q]
  · rename_i q; simp only [q]
  · cases h
theorem ty_ins {k c : Nat} {fs : List (Str × MV)} (h : st[k]? = some (.ins c fs)) : tyM (.ref k) st = some (.o c) := by unfold tyM; simp only [h]
@[simp] theorem kb_ii : kitB "int" "int" = some true := by decide +kernel
@[simp] theorem kb_ib : kitB "int" "bool" = some false := by decide +kernel
@[simp] theorem kb_is : kitB "int" "str" = some false := by decide +kernel
@[simp] theorem kb_it : kitB "int" "tuple" = some false := by decide +kernel
@[simp] theorem kb_bi : kitB "bool" "int" = some true := by decide +kernel
@[simp] theorem kb_bb : kitB "bool" "bool" = some true := by decide +kernel
@[simp] theorem kb_bs : kitB "bool" "str" = some false := by decide +kernel
@[simp] theorem kb_bt : kitB "bool" "tuple" = some false := by decide +kernel
@[simp] theorem kb_si : kitB "str" "int" = some false := by decide +kernel
@[simp] theorem kb_sb : kitB "str" "bool" = some false := by decide +kernel
@[simp] theorem kb_ss : kitB "str" "str" = some true := by decide +kernel
@[simp] theorem kb_st : kitB "str" "tuple" = some false := by decide +kernel
@[simp] theorem kb_ti : kitB "tuple" "int" = some false := by decide +kernel
@[simp] theorem kb_tb : kitB "tuple" "bool" = some false := by decide +kernel
@[simp] theorem kb_ts : kitB "tuple" "str" = some false := by decide +kernel
@[simp] theorem kb_tt : kitB "tuple" "tuple" = some true := by decide +kernel
@[simp] theorem kb_ni : kitB "NoneType" "int" = some false := by decide +kernel
@[simp] theorem kb_nb : kitB "NoneType" "bool" = some false := by decide +kernel
@[simp] theorem kb_ns : kitB "NoneType" "str" = some false := by decide +kernel
@[simp] theorem kb_nt : kitB "NoneType" "tuple" = some false := by decide +kernel
@[simp] theorem kb_li : kitB "list" "int" = some false := by decide +kernel
@[simp] theorem kb_lb : kitB "list" "bool" = some false := by decide +kernel
@[simp] theorem kb_ls : kitB "list" "str" = some false := by decide +kernel
@[simp] theorem kb_lt : kitB "list" "tuple" = some false := by decide +kernel
theorem m_isi {kt : Kt} {kb : Kb} {v c : MV} {ty : TyN} {r : Bool} (h1 : tyM v st = some ty) (h2 : isiOne kt kb ty c = some r) : isiM kt kb [v, c] st = ret (.bl r) st := by
  show (match tyM v st with | some ty => (match isiOne kt kb ty c with | some b => ret (MV.bl b) st | none => none) | none => none) = _
  rw [h1]
  simp only [h2]
@[simp] theorem isi_bb {kt : Kt} {kb : Kb} {m n : String} : isiOne kt kb (.b m) (.ty n) = kitB m n := rfl
@[simp] theorem isi_ob {kt : Kt} {kb : Kb} {k : Nat} {n : String} : isiOne kt kb (.o k) (.ty n) = kb.lookup (k, n) := rfl
@[simp] theorem isi_c {kt : Kt} {kb : Kb} {ty : TyN} {k : Nat} : isiOne kt kb ty (.cl k) = kt.lookup (ty, k) := rfl
@[simp] theorem m_isiE {kt : Kt} {kb : Kb} {v c : MV} : isiM kt kb [v, c] st = match tyM v st with | some ty => (match isiOne kt kb ty c with | some b => ret (.bl b) st | none => none) | none => none := rfl
@[simp] theorem t_bl : truM (.bl a) st = some a := rfl
@[simp] theorem t_int : truM (.int i) st = some (i != 0) := rfl
@[simp] theorem t_non : truM .non st = some false := rfl
@[simp] theorem t_tup : truM (.tup xs) st = some (!xs.isEmpty) := rfl
@[simp] theorem q_int : eqM (.int i) (.int j) st = ret (.bl (decide (i = j))) st := rfl
@[simp] theorem q_str : eqM (.str x) (.str y) st = ret (.bl (decide (x = y))) st := rfl
@[simp] theorem q_bl : eqM (.bl a) (.bl b) st = ret (.bl (decide (a = b))) st := rfl
@[simp] theorem n_int : neM (.int i) (.int j) st = ret (.bl (!decide (i = j))) st := rfl
@[simp] theorem n_str : neM (.str x) (.str y) st = ret (.bl (!decide (x = y))) st := rfl
@[simp] theorem n_bl : neM (.bl a) (.bl b) st = ret (.bl (!decide (a = b))) st := rfl
@[simp] theorem qi_int {t : Tb} {os : List Nat} : eqI t os (.int i) (.int j) st = ret (.bl (decide (i = j))) st := rfl
@[simp] theorem qi_str {t : Tb} {os : List Nat} : eqI t os (.str x) (.str y) st = ret (.bl (decide (x = y))) st := rfl
@[simp] theorem ni_int {t : Tb} {os : List Nat} : neI t os (.int i) (.int j) st = ret (.bl (!decide (i = j))) st := rfl
@[simp] theorem ni_str {t : Tb} {os : List Nat} : neI t os (.str x) (.str y) st = ret (.bl (!decide (x = y))) st := rfl
@[simp] theorem qi_tup {t : Tb} {os : List Nat} : eqI t os (.tup xs) (.tup ys) st = eqM (.tup xs) (.tup ys) st := rfl
@[simp] theorem ni_tup {t : Tb} {os : List Nat} : neI t os (.tup xs) (.tup ys) st = neM (.tup xs) (.tup ys) st := rfl
@[simp] theorem bools_map {bs : List Bool} : bools (bs.map .bl) = some bs := by
  induction bs with
  | nil => rfl
  | cons b bs ih => show (bools (bs.map .bl)).map _ = _; rw [ih]; rfl
@[simp] theorem ints_map {ns : List Int} : intsM (ns.map .int) = some ns := by
  induction ns with
  | nil => rfl
  | cons b bs ih => show (intsM (bs.map .int)).map _ = _; rw [ih]; rfl
@[simp] theorem anyL_map {bs : List Bool} : anyL (bs.map .bl) st = ret (.bl (bs.any id)) st := by unfold anyL; rw [bools_map]
@[simp] theorem allL_map {bs : List Bool} : allL (bs.map .bl) st = ret (.bl (bs.all id)) st := by unfold allL; rw [bools_map]
@[simp] theorem sumL_map {ns : List Int} : sumL (ns.map .int) st = ret (.int ns.sum) st := by unfold sumL; rw [ints_map]
@[simp] theorem tupleL_is : tupleL xs st = ret (.tup xs) st := rfl
@[simp] theorem lenL_is : lenL xs st = ret (MV.int xs.length) st := rfl
@[simp] theorem of_tup : isOf (.tup xs) st = some (.t xs) := rfl
theorem of_ref {k : Nat} (h : listOf st k = some xs) : isOf (.ref k) st = some (.l k xs.length) := by
  show (listOf st k).map _ = _
  rw [h]
  rfl
@[simp] theorem cnt_en {s : IS} : IM.cnt (.en s) = s.len := rfl
@[simp] theorem cnt_sq {s : IS} : IM.cnt (.sq s) = s.len := rfl
@[simp] theorem cnt_zp {s s' : IS} : IM.cnt (.zp s s') = min s.len s'.len := rfl
@[simp] theorem cnt_rng {lo : Int} {m : Nat} : IM.cnt (.rng lo m) = m := rfl
@[simp] theorem len_t : IS.len (.t xs) = xs.length := rfl
@[simp] theorem len_l {k m : Nat} : IS.len (.l k m) = m := rfl
@[simp] theorem fin_t : IS.fin (.t xs) st = true := rfl
@[simp] theorem fin_en {s : IS} : IM.fin (.en s) st = s.fin st := rfl
@[simp] theorem fin_sq {s : IS} : IM.fin (.sq s) st = s.fin st := rfl
@[simp] theorem fin_zp {s s' : IS} : IM.fin (.zp s s') st = (s.fin st && s'.fin st) := rfl
@[simp] theorem fin_rng {lo : Int} {m : Nat} : IM.fin (.rng lo m) st = true := rfl
theorem fin_l {k : Nat} (h : listOf st k = some xs) : IS.fin (.l k xs.length) st = true := by
  show (match listOf st k with | some ys => decide (ys.length = xs.length) | none => false) = true
  rw [h]
  simp
@[simp] theorem get_t {m : Nat} : IS.get (.t xs) m st = xs[m]? := rfl
theorem get_l {k m : Nat} (h : listOf st k = some xs) : IS.get (.l k xs.length) m st = xs[m]? := by
  show (match listOf st k with | some ys => if ys.length = xs.length then ys[m]? else none | none => none) = _
  rw [h]
  simp
@[simp] theorem get_en {s : IS} {m : Nat} : IM.get (.en s) m st = (s.get m st).map fun x => .tup [.int m, x] := rfl
@[simp] theorem get_sq {s : IS} {m : Nat} : IM.get (.sq s) m st = s.get m st := rfl
theorem get_rng {lo : Int} {m k : Nat} (h : k < m) : IM.get (.rng lo m) k st = some (.int (lo + k)) := if_pos h
theorem start_def {n : Nat} {args : List MV} : start n args = args.map some ++ List.replicate (n - args.length) none := rfl
end
end CS
namespace CS
open PySem L2
mutual
def plain : Nat → MV → Bool
  | _, .non => true
  | _, .bl _ => true
  | _, .int _ => true
  | _, .str x => PyData.strOk x
  | n + 1, .tup xs => plains n xs
  | _, _ => false
def plains : Nat → List MV → Bool
  | _, [] => true
  | n, x :: xs => plain n x && plains n xs
end
mutual
def datM : MV → PyData
  | .bl b => .bool b
  | .int i => .int i
  | .str x => .str x
  | .tup xs => .tuple (datMs xs)
  | _ => .none
def datMs : List MV → List PyData
  | [] => []
  | x :: xs => datM x :: datMs xs
end
@[simp] theorem plain_int {n : Nat} {i : Int} : plain n (.int i) = true := by cases n <;> rfl
@[simp] theorem plain_bl {n : Nat} {i : Bool} : plain n (.bl i) = true := by cases n <;> rfl
@[simp] theorem plain_non {n : Nat} : plain n .non = true := by cases n <;> rfl
@[simp] theorem plain_str {n : Nat} {x : Str} : plain n (.str x) = PyData.strOk x := by cases n <;> rfl
@[simp] theorem plain_tup {n : Nat} {xs : List MV} : plain (n + 1) (.tup xs) = plains n xs := rfl
@[simp] theorem plains_nil {n : Nat} : plains n [] = true := by cases n <;> rfl
@[simp] theorem plains_cons {n : Nat} {x : MV} {xs : List MV} : plains n (x :: xs) = (plain n x && plains n xs) := by cases n <;> rfl
theorem plains_map {α : Type} {f : α → MV} {n : Nat} : ∀ {l : List α}, (∀ a ∈ l, plain n (f a) = true) → plains n (l.map f) = true
  | [], _ => by simp
  | a :: l, h => by
    rw [List.map_cons, plains_cons, h a List.mem_cons_self, plains_map fun b hb => h b (List.mem_cons_of_mem _ hb)]
    rfl
theorem dM_non {st : Sto} {m : Nat} : dataM st m .non = some .none := by cases m <;> simp only [dataM]
theorem dM_bl {st : Sto} {m : Nat} {b : Bool} : dataM st m (.bl b) = some (.bool b) := by cases m <;> simp only [dataM]
theorem dM_int {st : Sto} {m : Nat} {b : Int} : dataM st m (.int b) = some (.int b) := by cases m <;> simp only [dataM]
theorem dM_str {st : Sto} {m : Nat} {b : Str} : dataM st m (.str b) = some (.str b) := by cases m <;> simp only [dataM]
theorem dM_tup {st : Sto} {m : Nat} {xs : List MV} : dataM st (m + 1) (.tup xs) = (dataMs st m xs).map .tuple := by simp only [dataM]
theorem dM_ref {st : Sto} {m i : Nat} {xs : List MV} (h : listOf st i = some xs) : dataM st (m + 1) (.ref i) = (dataMs st m xs).map .list := by simp only [dataM, h]
theorem dM_nil {st : Sto} {m : Nat} : dataMs st m [] = some [] := by cases m <;> simp only [dataMs]
theorem dM_cons {st : Sto} {m : Nat} {x : MV} {xs : List MV} {d : PyData} {ds : List PyData} (h1 : dataM st m x = some d) (h2 : dataMs st (m + 1) xs = some ds) : dataMs st (m + 1) (x :: xs) = some (d :: ds) := by simp only [dataMs, h1, h2]
mutual
theorem plain_data {st : Sto} : ∀ {x : MV} {n m : Nat}, plain n x = true → 2 * n ≤ m → dataM st m x = some (datM x)
  | .non, n, m, _, _ => dM_non
  | .bl b, n, m, _, _ => dM_bl
  | .int i, n, m, _, _ => dM_int
  | .str y, n, m, _, _ => dM_str
  | .tup xs, n + 1, m + 1, h, hm => by
    rw [dM_tup, plains_data (n := n) (by simpa using h) (by omega)]
    rfl
  | .tup xs, n + 1, 0, h, hm => by omega
  | .tup xs, 0, m, h, hm => by cases h
  | .ref i, n, m, h, _ => by cases n <;> cases h
  | .fn i, n, m, h, _ => by cases n <;> cases h
  | .cl i, n, m, h, _ => by cases n <;> cases h
  | .ty i, n, m, h, _ => by cases n <;> cases h
theorem plains_data {st : Sto} : ∀ {xs : List MV} {n m : Nat}, plains n xs = true → 2 * n + 1 ≤ m → dataMs st m xs = some (datMs xs)
  | [], n, m, _, _ => dM_nil
  | x :: xs, n, 0, h, hm => by omega
  | x :: xs, n, m + 1, h, hm => by
    rw [plains_cons, Bool.and_eq_true] at h
    exact dM_cons (plain_data (n := n) h.1 (by omega)) (plains_data (n := n) h.2 hm)
end
mutual
theorem plain_lay : ∀ {x : MV} {n : Nat}, plain n x = true → (datM x).canLay0 = true
  | .non, n, _ => rfl
  | .bl b, n, _ => rfl
  | .int i, n, _ => rfl
  | .str y, n, h => by rw [plain_str] at h; exact h
  | .tup xs, n + 1, h => plains_lay (n := n) (by simpa using h)
  | .tup xs, 0, h => by cases h
  | .ref i, n, h => by cases n <;> cases h
  | .fn i, n, h => by cases n <;> cases h
  | .cl i, n, h => by cases n <;> cases h
  | .ty i, n, h => by cases n <;> cases h
theorem plains_lay : ∀ {xs : List MV} {n : Nat}, plains n xs = true → PyData.canLayAll0 (datMs xs) = true
  | [], n, _ => rfl
  | x :: xs, n, h => by
    rw [plains_cons, Bool.and_eq_true] at h
    show ((datM x).canLay0 && PyData.canLayAll0 (datMs xs)) = true
    rw [plain_lay h.1, plains_lay h.2]
    rfl
end
mutual
theorem plain_depth : ∀ {x : MV} {n : Nat}, plain n x = true → (datM x).depth ≤ n
  | .non, n, _ => Nat.zero_le _
  | .bl b, n, _ => Nat.zero_le _
  | .int i, n, _ => Nat.zero_le _
  | .str y, n, h => Nat.zero_le _
  | .tup xs, n + 1, h => by
    show PyData.depthAll (datMs xs) + 1 ≤ n + 1
    have := plains_depth (xs := xs) (n := n) (by simpa using h)
    omega
  | .tup xs, 0, h => by cases h
  | .ref i, n, h => by cases n <;> cases h
  | .fn i, n, h => by cases n <;> cases h
  | .cl i, n, h => by cases n <;> cases h
  | .ty i, n, h => by cases n <;> cases h
theorem plains_depth : ∀ {xs : List MV} {n : Nat}, plains n xs = true → PyData.depthAll (datMs xs) ≤ n
  | [], n, _ => Nat.zero_le _
  | x :: xs, n, h => by
    rw [plains_cons, Bool.and_eq_true] at h
    show max (datM x).depth (PyData.depthAll (datMs xs)) ≤ n
    have h1 := plain_depth h.1
    have h2 := plains_depth h.2
    omega
end
mutual
theorem plain_nodict : ∀ (x : MV), (datM x).hasDict = false
  | .non => rfl
  | .bl b => rfl
  | .int i => rfl
  | .str y => rfl
  | .tup xs => plains_nodict xs
  | .ref i => rfl
  | .fn i => rfl
  | .cl i => rfl
  | .ty i => rfl
theorem plains_nodict : ∀ (xs : List MV), PyData.hasDictAll (datMs xs) = false
  | [] => rfl
  | x :: xs => by
    show ((datM x).hasDict || PyData.hasDictAll (datMs xs)) = false
    rw [plain_nodict x, plains_nodict xs]
    rfl
end
mutual
def noBl : MV → Bool
  | .bl _ => false
  | .tup xs => noBls xs
  | _ => true
def noBls : List MV → Bool
  | [] => true
  | x :: xs => noBl x && noBls xs
end
@[simp] theorem noBl_int {i : Int} : noBl (.int i) = true := rfl
@[simp] theorem noBl_str {i : Str} : noBl (.str i) = true := rfl
@[simp] theorem noBl_non : noBl .non = true := rfl
@[simp] theorem noBl_tup {xs : List MV} : noBl (.tup xs) = noBls xs := rfl
@[simp] theorem noBls_nil : noBls [] = true := rfl
@[simp] theorem noBls_cons {x : MV} {xs : List MV} : noBls (x :: xs) = (noBl x && noBls xs) := rfl
theorem noBls_map {α : Type} {f : α → MV} : ∀ {l : List α}, (∀ a ∈ l, noBl (f a) = true) → noBls (l.map f) = true
  | [], _ => rfl
  | a :: l, h => by
    rw [List.map_cons, noBls_cons, h a List.mem_cons_self, noBls_map fun b hb => h b (List.mem_cons_of_mem _ hb)]
    rfl
mutual
theorem eqv_eqV : ∀ {x y : MV} {n k : Nat}, plain n x = true → plain k y = true → noBl x = true → noBl y = true → PyData.eqv (datM x) (datM y) = eqV x y
  | .non, y, n, k, hx, hy, bx, by' => by cases y <;> first | rfl | (cases by'; done) | (cases k <;> cases hy)
  | .bl _, y, n, k, hx, hy, bx, by' => by cases bx
  | .int i, y, n, k, hx, hy, bx, by' => by cases y <;> first | rfl | (cases by'; done) | (cases k <;> cases hy)
  | .str i, y, n, k, hx, hy, bx, by' => by cases y <;> first | rfl | (cases by'; done) | (cases k <;> cases hy)
  | .tup xs, y, n, k, hx, hy, bx, by' => by
    cases y with
    | tup ys =>
      cases n with
      | zero => cases hx
      | succ n =>
        cases k with
        | zero => cases hy
        | succ k => exact eqvs_eqVs (n := n) (k := k) (by simpa using hx) (by simpa using hy) bx by'
    | bl b => cases by'
    | _ => first | rfl | (cases k <;> cases hy)
  | .ref _, y, n, k, hx, hy, bx, by' => by cases n <;> cases hx
  | .fn _, y, n, k, hx, hy, bx, by' => by cases n <;> cases hx
  | .cl _, y, n, k, hx, hy, bx, by' => by cases n <;> cases hx
  | .ty _, y, n, k, hx, hy, bx, by' => by cases n <;> cases hx
theorem eqvs_eqVs : ∀ {xs ys : List MV} {n k : Nat}, plains n xs = true → plains k ys = true → noBls xs = true → noBls ys = true → PyData.eqvAll (datMs xs) (datMs ys) = eqVs xs ys
  | [], [], n, k, _, _, _, _ => rfl
  | [], y :: ys, n, k, _, _, _, _ => rfl
  | x :: xs, [], n, k, _, _, _, _ => rfl
  | x :: xs, y :: ys, n, k, hx, hy, bx, by' => by
    rw [plains_cons, Bool.and_eq_true] at hx hy
    rw [noBls_cons, Bool.and_eq_true] at bx by'
    show (PyData.eqv (datM x) (datM y) && PyData.eqvAll (datMs xs) (datMs ys)) = (eqV x y && eqVs xs ys)
    rw [eqv_eqV hx.1 hy.1 bx.1 by'.1, eqvs_eqVs hx.2 hy.2 bx.2 by'.2]
end
theorem shaped_of {x : MV} {n : Nat} (h : plain n x = true) (hn : n ≤ 14) : SeqAt.shaped (datM x) = true := by
  unfold SeqAt.shaped
  have h1 := plain_lay h
  have h2 := plain_depth h
  rw [h1, Bool.true_and]
  exact decide_eq_true (by omega)
theorem eqD_plain {x y : MV} {st : Sto} {n k : Nat} (hx : plain n x = true) (hy : plain k y = true) (bx : noBl x = true) (by' : noBl y = true) (hn : n ≤ 14) (hk : k ≤ 14) : eqD x y st = some (eqV x y) := by
  have key : (match dataM st 30 x, dataM st 30 y with
    | some d, some e => if SeqAt.shaped d && SeqAt.shaped e then some (PyData.eqv d e) else none
    | _, _ => none) = some (eqV x y) := by
    rw [plain_data (m := 30) hx (by omega), plain_data (m := 30) hy (by omega)]
    simp only [shaped_of hx hn, shaped_of hy hk, Bool.and_self, if_true, eqv_eqV hx hy bx by']
  unfold eqD
  split
  · rename_i i j
    show some (decide (i = j)) = some (i == j)
    rw [Bool.beq_eq_decide_eq]
  · rename_i i j
    show some (decide (i = j)) = some (i == j)
    rw [Bool.beq_eq_decide_eq]
  · cases bx
  · rfl
  · rfl
  · rfl
  · exact key
theorem eq_plain {x y : MV} {st : Sto} {n k : Nat} (hx : plain n x = true) (hy : plain k y = true) (bx : noBl x = true) (by' : noBl y = true) (hn : n ≤ 14) (hk : k ≤ 14) : eqM x y st = ret (.bl (eqV x y)) st := by
  unfold eqM
  rw [eqD_plain hx hy bx by' hn hk]
theorem ne_plain {x y : MV} {st : Sto} {n k : Nat} (hx : plain n x = true) (hy : plain k y = true) (bx : noBl x = true) (by' : noBl y = true) (hn : n ≤ 14) (hk : k ≤ 14) : neM x y st = ret (.bl (!eqV x y)) st := by
  unfold neM
  rw [eqD_plain hx hy bx by' hn hk]
theorem data_list {st : Sto} {i : Nat} {xs : List MV} {n m : Nat} (h : listOf st i = some xs) (hx : plains n xs = true) (hm : 2 * n + 2 ≤ m) : dataM st m (.ref i) = some (.list (datMs xs)) := by
  match m with
  | 0 => omega
  | m + 1 =>
    rw [dM_ref h, plains_data (m := m) hx (by omega)]
    rfl
theorem shapeds_of {xs : List MV} {n : Nat} (h : plains n xs = true) (hn : n ≤ 12) : SeqAt.shaped (.list (datMs xs)) = true := by
  unfold SeqAt.shaped
  have h1 : PyData.canLay0 (.list (datMs xs)) = true := plains_lay h
  have h2 := plains_depth h
  rw [h1, Bool.true_and]
  refine decide_eq_true ?_
  show PyData.depthAll (datMs xs) + 1 ≤ 64
  omega
theorem eqD_lists {st : Sto} {i j : Nat} {xs ys : List MV} {n k : Nat} (h : listOf st i = some xs) (h' : listOf st j = some ys) (hx : plains n xs = true) (hy : plains k ys = true) (bx : noBls xs = true) (by' : noBls ys = true) (hn : n ≤ 12) (hk : k ≤ 12) :
    eqD (.ref i) (.ref j) st = some (eqVs xs ys) := by
  show (match dataM st 30 (.ref i), dataM st 30 (.ref j) with
    | some d, some e => if SeqAt.shaped d && SeqAt.shaped e then some (PyData.eqv d e) else none
    | _, _ => none) = _
  rw [data_list h hx (by omega), data_list h' hy (by omega)]
  simp only [shapeds_of hx hn, shapeds_of hy hk, Bool.and_self, if_true]
  exact congrArg some (eqvs_eqVs hx hy bx by')
theorem eqV_iff {x y : MV} : eqV x y = true ↔ x = y := ⟨eqV_of, fun h => h ▸ eqV_refl x⟩
theorem eqVs_iff {x y : List MV} : eqVs x y = true ↔ x = y := ⟨eqVs_of, fun h => h ▸ eqVs_refl x⟩
@[simp] theorem eqV_self {x : MV} : eqV x x = true := eqV_refl x
@[simp] theorem eqVs_self {x : List MV} : eqVs x x = true := eqVs_refl x
theorem eqV_ne {x y : MV} (h : x ≠ y) : eqV x y = false := by
  cases q : eqV x y with
  | false => rfl
  | true => exact absurd (eqV_of q) h
mutual
def showM : MV → Bool
  | .int i => decide (i.natAbs.log2 < 1920)
  | .tup xs => showMs xs
  | _ => true
def showMs : List MV → Bool
  | [] => true
  | x :: xs => showM x && showMs xs
end
@[simp] theorem showMs_nil : showMs [] = true := rfl
@[simp] theorem showMs_cons {x : MV} {xs : List MV} : showMs (x :: xs) = (showM x && showMs xs) := rfl
@[simp] theorem showM_int {i : Int} : showM (.int i) = decide (i.natAbs.log2 < 1920) := rfl
@[simp] theorem showM_str {i : Str} : showM (.str i) = true := rfl
@[simp] theorem showM_bl {i : Bool} : showM (.bl i) = true := rfl
@[simp] theorem showM_non : showM .non = true := rfl
@[simp] theorem showM_tup {xs : List MV} : showM (.tup xs) = showMs xs := rfl
theorem showMs_map {α : Type} {f : α → MV} : ∀ {l : List α}, (∀ a ∈ l, showM (f a) = true) → showMs (l.map f) = true
  | [], _ => rfl
  | a :: l, h => by
    rw [List.map_cons, showMs_cons, h a List.mem_cons_self, showMs_map fun b hb => h b (List.mem_cons_of_mem _ hb)]
    rfl
mutual
theorem plain_show : ∀ {x : MV} {n : Nat}, plain n x = true → showM x = true → (datM x).showable = true ∧ (datM x).leavesShort 1925 = true
  | .non, n, _, _ => ⟨rfl, rfl⟩
  | .bl b, n, _, _ => ⟨rfl, rfl⟩
  | .int i, n, _, h => by
    have h : i.natAbs.log2 < 1920 := of_decide_eq_true h
    refine ⟨decide_eq_true h, decide_eq_true ?_⟩
    show (Str.ofString (toString i)).length ≤ 1925
    have := PyProof.Rows.int_text_len_1921 h
    omega
  | .str y, n, h, _ => by
    rw [plain_str] at h
    refine ⟨rfl, ?_⟩
    show (y.cps.toList.all fun c => decide (c < 16 ^ 8)) = true
    unfold PyData.strOk at h
    rw [← Array.all_toList] at h
    rw [List.all_eq_true] at h ⊢
    intro c hc
    have := of_decide_eq_true (h c hc)
    exact decide_eq_true (by omega)
  | .tup xs, n + 1, h, hs => plains_show (n := n) (by simpa using h) hs
  | .tup xs, 0, h, _ => by cases h
  | .ref i, n, h, _ => by cases n <;> cases h
  | .fn i, n, h, _ => by cases n <;> cases h
  | .cl i, n, h, _ => by cases n <;> cases h
  | .ty i, n, h, _ => by cases n <;> cases h
theorem plains_show : ∀ {xs : List MV} {n : Nat}, plains n xs = true → showMs xs = true → PyData.showableAll (datMs xs) = true ∧ PyData.leavesShortAll 1925 (datMs xs) = true
  | [], n, _, _ => ⟨rfl, rfl⟩
  | x :: xs, n, h, hs => by
    rw [plains_cons, Bool.and_eq_true] at h
    rw [showMs_cons, Bool.and_eq_true] at hs
    have h1 := plain_show h.1 hs.1
    have h2 := plains_show h.2 hs.2
    refine ⟨?_, ?_⟩
    · show ((datM x).showable && PyData.showableAll (datMs xs)) = true
      rw [h1.1, h2.1]; rfl
    · show ((datM x).leavesShort 1925 && PyData.leavesShortAll 1925 (datMs xs)) = true
      rw [h1.2, h2.2]; rfl
end
def wtM (x : MV) : Nat := (datM x).weight
def wtMs (xs : List MV) : Nat := PyData.weightAll (datMs xs)
@[simp] theorem wtMs_nil : wtMs [] = 0 := rfl
@[simp] theorem wtMs_cons {x : MV} {xs : List MV} : wtMs (x :: xs) = wtM x + 1 + wtMs xs := rfl
@[simp] theorem wtM_tup {xs : List MV} : wtM (.tup xs) = wtMs xs := rfl
@[simp] theorem wtM_non : wtM .non = 0 := rfl
@[simp] theorem wtM_bl {b : Bool} : wtM (.bl b) = 0 := rfl
@[simp] theorem wtM_str {x : Str} : wtM (.str x) = x.length := rfl
theorem wtM_int {i : Int} {k : Nat} (h : i.natAbs < 2 ^ k) : wtM (.int i) ≤ k := by
  show (if i == 0 then 0 else i.natAbs.log2 + 1) ≤ k
  split
  · exact Nat.zero_le _
  · rename_i z
    have z : i ≠ 0 := by simpa using z
    have := (Nat.log2_lt (n := i.natAbs) (k := k) (by omega)).mpr h
    omega
theorem wtMs_map {α : Type} {f : α → MV} {B : Nat} : ∀ {l : List α}, (∀ a ∈ l, wtM (f a) ≤ B) → wtMs (l.map f) ≤ (B + 1) * l.length
  | [], _ => Nat.zero_le _
  | a :: l, h => by
    rw [List.map_cons, wtMs_cons, List.length_cons, Nat.mul_add]
    have h1 := h a List.mem_cons_self
    have h2 := wtMs_map (l := l) fun b hb => h b (List.mem_cons_of_mem _ hb)
    omega
theorem fits_of {d : PyData} (h1 : d.leavesShort 1925 = true) (h2 : d.weight ≤ 8000) : d.shown.length ≤ sizeLine := by
  have h := PyData.shown_le 1925 (by decide) d h1
  rw [sizeLine_eq]
  omega
theorem repr_list {t : Tb} {st : Sto} {i : Nat} {xs : List MV} {n : Nat} (h : listOf st i = some xs) (hx : plains n xs = true) (hs : showMs xs = true) (hn : n ≤ 25) (hw : wtMs xs ≤ 8000) :
    reprI t [.ref i] st = ret (.str (PyData.shown (.list (datMs xs)))) st := by
  show (match ownG t (.ref i) st with
    | some g => bndP (g [.ref i] st) asStr fun n st1 => ret (.str n) st1
    | none => (match reprD (.ref i) st with | some z => ret (MV.str z) st | none => none)) = _
  rw [own_lst h]
  have e : reprD (.ref i) st = some (PyData.shown (.list (datMs xs))) := by
    show (match dataM st 60 (.ref i) with | some d => shownD d | none => (match dataD st 60 (.ref i) with | some d => shownE d | none => none)) = _
    rw [data_list h hx (by omega)]
    have s := plains_show hx hs
    show shownD (.list (datMs xs)) = _
    unfold shownD
    have c1 : PyData.showable (.list (datMs xs)) = true := s.1
    have c2 : PyData.hasDict (.list (datMs xs)) = false := plains_nodict xs
    have c3 : PyData.depth (.list (datMs xs)) ≤ 60 := by
      show PyData.depthAll (datMs xs) + 1 ≤ 60
      have := plains_depth hx
      omega
    have c4 : (PyData.shown (.list (datMs xs))).length ≤ sizeLine := fits_of s.2 hw
    simp only [c1, c2, c3, c4, Bool.not_false, Bool.and_self, decide_true, if_true]
  simp only [e]
end CS
namespace CS
open PySem L2
section
variable {ρ : MEnv} {st : Sto} {P : MV → Sto → Prop} {PA : List MV → Sto → Prop} {X : MX → Sto → Prop} {PS : Fl → MEnv → Sto → Prop}
@[simp] theorem e_sortK {v : SV} {fe : DE} {mk : MEnv → Fn} : Wp (eSortK v fe mk ρ st) P X = if v.ok = true then Wp (fe ρ st) (fun x st1 => Wp (match seqM x st1 with
    | some xs => if xs.length ≤ sizeLine then (match keysM (mk ρ) st1 xs with | some ks => ret (.ref st1.length) (st1 ++ [.lst (sortP xs ks)]) | none => none) else none
    | none => none) P X) X else False := by
  unfold eSortK
  simp only [wp_ite, wp_bnd, wp_none] <;> rfl
@[simp] theorem e_callV {i n : Nat} {ar : Nat → Nat} {S : Nat → Fn} {fa : DA} : Wp (eCallV i ar n S fa ρ st) P X = match ρ[i]? with
    | some (some (.fn j)) => if ar j = n then Wp (fa ρ st) (fun xs st1 => Wp (S j xs st1) P X) X else False
    | _ => False := by
  unfold eCallV
  generalize ρ[i]? = o
  match o with
  | none => rfl
  | some none => rfl
  | some (some (.fn j)) => simp only [wp_ite, wp_bnd, wp_none]
  | some (some .non) => rfl
  | some (some (.bl _)) => rfl
  | some (some (.int _)) => rfl
  | some (some (.str _)) => rfl
  | some (some (.ty _)) => rfl
  | some (some (.cl _)) => rfl
  | some (some (.tup _)) => rfl
  | some (some (.ref _)) => rfl
@[simp] theorem e_callL {v : SV} {j n arL : Nat} {mk : MEnv → Fn} {fa : DA} : Wp (eCallL v j n mk arL fa ρ st) P X = if v.ok = true then Wp (fa ρ st) (fun xs st1 => Wp (leave (noFn v.n) v.n st1 (v.X arL (mk ρ) j (xs ++ [.fn v.n]) st1)) P X) X else False := by
  unfold eCallL
  simp only [wp_ite, wp_bnd, wp_none]
@[simp] theorem a_star {fe : DE} {g : DA} : Wp (aStar fe g ρ st) PA X = Wp (fe ρ st) (fun x st1 => Wp (match seqM x st1 with
    | some xs => bnd (g ρ st1) fun ys st2 => ret (xs ++ ys) st2
    | none => none) PA X) X := by
  unfold aStar
  simp only [wp_bnd] <;> rfl
@[simp] theorem g_tq {gs : DGs} {n : Nat} {x : MV} : WpS (gTq gs n x ρ st) PS = match seqM x st with | some xs => if xs.length = n then WpS (gs xs ρ st) PS else False | none => False := by
  unfold gTq
  generalize seqM x st = o
  match o with
  | none => rfl
  | some xs => simp only [wps_ite, wps_none]
@[simp] theorem e_dix {L : List (Str × DE)} {fi : DE} : Wp (eDix L fi ρ st) P X = Wp (dKV L ρ st) (fun vs st1 => Wp (fi ρ st1) (fun k st2 => Wp (match k with
    | .str s => (match ((L.map (·.1)).zip vs).lookup s with | some v => ret v st2 | none => none)
    | _ => none) P X) X) X := by
  unfold eDix
  simp only [wp_bnd] <;> rfl
@[simp] theorem d_nil : Wp (dKV [] ρ st) PA X = PA [] st := id rfl
theorem dKV_cons {k : Str} {f : DE} {r : List (Str × DE)} : dKV ((k, f) :: r) = fun ρ st => bnd (f ρ st) fun x st1 => bnd (dKV r ρ st1) fun xs st2 => ret (x :: xs) st2 := rfl
@[simp] theorem d_cons {k : Str} {f : DE} {r : List (Str × DE)} : Wp (dKV ((k, f) :: r) ρ st) PA X = Wp (f ρ st) (fun x st1 => Wp (dKV r ρ st1) (fun xs st2 => PA (x :: xs) st2) X) X := by
  rw [dKV_cons]
  simp only [wp_bnd, wp_ret]
@[simp] theorem e_app {fo fe : DE} : Wp (eApp fo fe ρ st) P X = Wp (fo ρ st) (fun x st1 => Wp (match x with
    | .ref j => (match listOf st1 j with
      | some _ => bnd (fe ρ st1) fun y st2 => (match st2[j]? with
        | some (.lst xs) => if xs.length < sizeLine then ret .non (st2.set j (.lst (xs ++ [y]))) else none
        | _ => none)
      | none => none)
    | _ => none) P X) X := by
  unfold eApp
  simp only [wp_bnd] <;> rfl
@[simp] theorem seq_tup {xs : List MV} : seqM (.tup xs) st = some xs := rfl
theorem seq_ref {i : Nat} {xs : List MV} (h : CS.listOf st i = some xs) : seqM (.ref i) st = some xs := h
@[simp] theorem m_tupT {xs : List MV} : tupleM [.tup xs] st = ret (.tup xs) st := rfl
theorem m_tupR {i : Nat} {xs : List MV} (h : CS.listOf st i = some xs) : tupleM [.ref i] st = ret (.tup xs) st := by
  unfold tupleM
  simp only [seq_ref h]
theorem m_inT {neg : Bool} {x : MV} {ys : List MV} (h : (flatM x && ys.all flatM) = true) : inM neg x (.tup ys) st = ret (.bl (if neg then !inF x ys else inF x ys)) st := by
  unfold inM
  simp only [seq_tup]
  rw [if_pos h]
theorem pairs_map {ks : List IP} : pairsM (ks.map fun k => .tup [.int k.1, .int k.2]) = some ks := by
  induction ks with
  | nil => rfl
  | cons k ks ih =>
    rw [List.map_cons]
    unfold pairsM
    rw [ih]
    rfl
theorem m_sort {i : Nat} {ks : List IP} (h : CS.listOf st i = some (ks.map fun k => .tup [.int k.1, .int k.2])) (hl : ks.length ≤ sizeLine) : sortM [.ref i] st = ret (.ref st.length) (st ++ [.lst ((sortIP ks).map fun k => .tup [.int k.1, .int k.2])]) := by
  unfold sortM
  simp only [seq_ref h, pairs_map, List.length_map, hl, if_true]
  have e : sortP (ks.map fun k => MV.tup [.int k.1, .int k.2]) ks = (sortIP ks).map fun k => .tup [.int k.1, .int k.2] := by
    unfold sortP sortIP
    have z : (ks.map fun k => MV.tup [.int k.1, .int k.2]).zip ks = ks.map fun k => (MV.tup [.int k.1, .int k.2], k) := by
      clear h hl
      induction ks with
      | nil => rfl
      | cons k ks ih => rw [List.map_cons, List.zip_cons_cons, ih]; rfl
    rw [z, ← List.map_mergeSort (r := fun a b : IP => leP a b) (by intro a _ b _; rfl), List.map_map]
    rfl
  rw [e]
theorem pairOf_ret {a b : Int} : pairOf (ret (.tup [.int a, .int b]) st) st = some (a, b) := by
  unfold pairOf CS.ret
  simp only [eqSt_refl, if_true]
theorem keys_map {g : Fn} {f : Int → IP} {is : List Int} (h : ∀ i ∈ is, pairOf (g [.int i] st) st = some (f i)) : keysM g st (is.map .int) = some (is.map f) := by
  induction is with
  | nil => rfl
  | cons i is ih =>
    rw [List.map_cons]
    unfold keysM
    rw [h i List.mem_cons_self, ih fun j hj => h j (List.mem_cons_of_mem _ hj)]
    rfl
theorem sortP_snd {f : Int → IP} {is : List Int} (h : ∀ i, (f i).2 = i) : sortP (is.map .int) (is.map f) = (sortIP (is.map f)).map fun k => .int k.2 := by
  unfold sortP sortIP
  have z : (is.map MV.int).zip (is.map f) = (is.map f).map fun k => (MV.int k.2, k) := by
    induction is with
    | nil => rfl
    | cons i is ih => rw [List.map_cons, List.map_cons, List.map_cons, List.zip_cons_cons, ih, h]
  rw [z, ← List.map_mergeSort (r := fun a b : IP => leP a b) (by intro a _ b _; rfl), List.map_map]
  rfl
theorem finE_same {v : MV} (h : lowV st.length v = true) : finE st (ret v st) = ret v st := by
  unfold finE CS.ret
  simp only [h, if_true, gc_same]
@[simp] theorem sv_S {D : List DefT} {den : Dn} {k : Nat} {C : CE} : (svAt D den k C).S = semL D den k C := rfl
@[simp] theorem sv_n {D : List DefT} {den : Dn} {k : Nat} {C : CE} : (svAt D den k C).n = 1000 + C.length := rfl
@[simp] theorem sv_ar {D : List DefT} {den : Dn} {k : Nat} {C : CE} : (svAt D den k C).ar = arOf D C := rfl
@[simp] theorem sv_ok {D : List DefT} {den : Dn} {k : Nat} {C : CE} : (svAt D den (k + 3) C).ok = true := by
  show decide (3 ≤ k + 3) = true
  exact decide_eq_true (by omega)
theorem sv_B {D : List DefT} {den : Dn} {k : Nat} {C : CE} : (svAt D den (k + 3) C).B = semL D den k (C ++ [dummyC]) := by
  show (if 3 ≤ k + 3 then semL D den (k + 3 - 3) (C ++ [dummyC]) else fun _ _ _ => none) = _
  rw [if_pos (by omega : 3 ≤ k + 3)]
  rfl
theorem sv_X {D : List DefT} {den : Dn} {k : Nat} {C : CE} {ar : Nat} {g : Fn} : (svAt D den (k + 3) C).X ar g = semL D den (k + 3) (C ++ [⟨k + 1, ar, g⟩]) := by
  show (if 3 ≤ k + 3 then semL D den (k + 3) (C ++ [⟨k + 3 - 2, ar, g⟩]) else fun _ _ _ => none) = _
  rw [if_pos (by omega : 3 ≤ k + 3)]
  rfl
end
end CS
namespace CS
open PySem L2
theorem j_cons {f : DE} {fs : List DE} {acc : Str} {ρ : MEnv} {st : Sto} {P : MV → Sto → Prop} {X : MX → Sto → Prop} : Wp (joinM (f :: fs) acc ρ st) P X = Wp (f ρ st) (fun x st1 => Wp (match x with
    | .str y => if (acc ++ y).length ≤ sizeLine then joinM fs (acc ++ y) ρ st1 else none
    | _ => none) P X) X := wp_bnd
theorem j_nil {acc : Str} {ρ : MEnv} {st : Sto} {P : MV → Sto → Prop} {X : MX → Sto → Prop} : Wp (joinM [] acc ρ st) P X = P (.str acc) st := id rfl
theorem e_fm {f : DE} {ρ : MEnv} {st : Sto} {P : MV → Sto → Prop} {X : MX → Sto → Prop} : Wp (eFm f ρ st) P X = Wp (f ρ st) (fun x st1 => Wp (match x with
    | .str y => if y.length ≤ sizeLine then ret (.str y) st1 else none
    | .int i => if i.natAbs.log2 < 1920 then ret (.str (toString i)) st1 else none
    | _ => none) P X) X := by unfold eFm; simp only [wp_bnd] <;> rfl
theorem small_log {n : Int} (h : n.natAbs < 2 ^ 1920) : n.natAbs.log2 < 1920 := by
  by_cases z : n.natAbs = 0
  · rw [z]; decide
  · rw [Nat.log2_lt z]
    exact h
theorem small_log1000 {n : Int} (h0 : 0 ≤ n) (h1 : n ≤ 1000) : n.natAbs.log2 < 1920 := by
  refine small_log (Nat.lt_of_le_of_lt (show n.natAbs ≤ 1000 by omega) (by decide +kernel))
theorem len_str (n : Nat) (h : n ≤ 1000) : (Str.ofString (toString (n : Int))).length ≤ 1921 := PyProof.Rows.int_text_len_1921 (small_log1000 (by omega) (by omega))
theorem ix3 {a b c : MV} {st : Sto} {j : Nat} (h : st[j]? = some (.lst [a, b, c])) : ixM (.ref j) (.int 0) st = ret a st ∧ ixM (.ref j) (.int 1) st = ret b st ∧ ixM (.ref j) (.int 2) st = ret c st :=
  ⟨m_ixR (list_at h) (at_int (by decide) rfl), m_ixR (list_at h) (at_int (by decide) rfl), m_ixR (list_at h) (at_int (by decide) rfl)⟩
theorem set3 {a b c v : MV} {st : Sto} {j : Nat} (h : st[j]? = some (.lst [a, b, c])) :
    setM (.ref j) (.int 0) v st = some (st.set j (.lst [v, b, c])) ∧ setM (.ref j) (.int 1) v st = some (st.set j (.lst [a, v, c])) ∧ setM (.ref j) (.int 2) v st = some (st.set j (.lst [a, b, v])) := by
  simp [setM, h, ixN]
theorem m_addR {st : Sto} {i j : Nat} {xs ys : List MV} (h1 : st[i]? = some (.lst xs)) (h2 : st[j]? = some (.lst ys)) (hl : xs.length + ys.length ≤ sizeLine) : addM (.ref i) (.ref j) st = ret (.ref st.length) (st ++ [.lst (xs ++ ys)]) := by
  unfold addM
  simp only [h1, h2]
  rw [if_pos hl]
theorem m_slR {lo hi : Option Int} {i : Nat} {xs : List MV} {st : Sto} (h : CS.listOf st i = some xs) : slM (.ref i) lo hi st = ret (MV.ref st.length) (st ++ [.lst (cutM xs lo hi)]) := by
  unfold slM
  simp only [h]
@[simp] theorem m_slT {lo hi : Option Int} {xs : List MV} {st : Sto} : slM (.tup xs) lo hi st = ret (.tup (cutM xs lo hi)) st := rfl
theorem cut_take {xs : List MV} {k : Int} (h0 : 0 ≤ k) : cutM xs none (some k) = xs.take k.toNat := by
  unfold cutM
  have e1 : HT.sIx xs.length 0 none = 0 := by simp [HT.sIx]
  rw [e1, List.drop_zero]
  by_cases h : k.toNat ≤ xs.length
  · have e : HT.sIx xs.length xs.length (some k) = k.toNat := by
      unfold HT.sIx
      have h9 : ¬ k < 0 := by omega
      simp [h9]
      omega
    rw [e, Nat.sub_zero]
  · have e : HT.sIx xs.length xs.length (some k) = xs.length := by
      unfold HT.sIx
      have h9 : ¬ k < 0 := by omega
      simp [h9]
      omega
    rw [e, Nat.sub_zero, List.take_of_length_le (Nat.le_refl _), List.take_of_length_le (by omega)]
theorem cut_drop {xs : List MV} {k : Int} (h0 : 0 ≤ k) : cutM xs (some k) none = xs.drop k.toNat := by
  unfold cutM
  have e1 : HT.sIx xs.length xs.length none = xs.length := by simp [HT.sIx]
  rw [e1]
  by_cases h : k.toNat ≤ xs.length
  · have e : HT.sIx xs.length 0 (some k) = k.toNat := by
      unfold HT.sIx
      have h9 : ¬ k < 0 := by omega
      simp [h9]
      omega
    rw [e, List.take_of_length_le (by rw [List.length_drop]; omega)]
  · have e : HT.sIx xs.length 0 (some k) = xs.length := by
      unfold HT.sIx
      have h9 : ¬ k < 0 := by omega
      simp [h9]
      omega
    rw [e, List.drop_of_length_le (Nat.le_refl _), List.drop_of_length_le (by omega)]
    simp
theorem asLen_ok {n : Int} (h0 : 0 ≤ n) (h1 : n < 2 ^ 63) : asLen (.int n) = some n := by
  unfold asLen
  simp only
  rw [if_pos ⟨h0, h1⟩]
theorem bndP_some {α β : Type} {a : α} {st : Sto} {f : α → Option β} {g : β → Sto → R MV} {y : β} (h : f a = some y) : bndP (ret a st) f g = g y st := by
  unfold bndP bndN CS.ret
  simp only [h]
theorem low_ints {n : Nat} : ∀ is : List Int, lowVs n (is.map .int) = true
  | [] => rfl
  | a :: as => by rw [List.map_cons]; unfold lowVs; rw [low_ints as]; rfl
theorem low_map {α : Type} {n : Nat} {f : α → MV} (h : ∀ a, lowV n (f a) = true) : ∀ l : List α, lowVs n (l.map f) = true
  | [] => rfl
  | a :: as => by rw [List.map_cons]; unfold lowVs; rw [low_map h as, h]; rfl
structure Fr (S : List Nat) (st st' : Sto) : Prop where
  le : st.length ≤ st'.length
  at_ : ∀ i, i < st.length → i ∉ S → st'[i]? = st[i]?
theorem Fr.refl {S : List Nat} {st : Sto} : Fr S st st := ⟨Nat.le_refl _, fun _ _ _ => rfl⟩
theorem Fr.trans {S : List Nat} {st st1 st2 : Sto} (h : Fr S st st1) (k : Fr S st1 st2) : Fr S st st2 :=
  ⟨Nat.le_trans h.le k.le, fun i hi hj => (k.at_ i (Nat.lt_of_lt_of_le hi h.le) hj).trans (h.at_ i hi hj)⟩
theorem Fr.app {S : List Nat} {st st1 : Sto} (h : Fr S st st1) (t : Sto) : Fr S st (st1 ++ t) := by
  refine ⟨by rw [List.length_append]; have := h.le; omega, fun i hi hj => ?_⟩
  rw [List.getElem?_append_left (Nat.lt_of_lt_of_le hi h.le)]
  exact h.at_ i hi hj
theorem Fr.gc {S : List Nat} {st st1 : Sto} (h : Fr S st st1) : Fr S st (gcS st st1) := by
  unfold gcS
  split
  · refine ⟨by rw [List.length_take]; have := h.le; omega, fun i hi hne => ?_⟩
    rw [List.getElem?_take_of_lt hi]
    exact h.at_ i hi hne
  · exact h
theorem Fr.gcI {S : List Nat} {st st1 : Sto} {c : Prop} [Decidable c] (h : Fr S st st1) : Fr S st (if c then gcS st st1 else st1) := by
  split
  · exact h.gc
  · exact h
theorem Fr.set {S : List Nat} {st : Sto} {j : Nat} (h : j ∈ S) (o : MO) : Fr S st (st.set j o) := by
  refine ⟨by simp, fun i hi hne => ?_⟩
  rw [List.getElem?_set_ne (fun z : j = i => hne (by rw [← z]; exact h))]
theorem Fr.sub {S S' : List Nat} {st st1 : Sto} (h : Fr S st st1) (k : ∀ i ∈ S, i ∈ S') : Fr S' st st1 := ⟨h.le, fun i hi hne => h.at_ i hi fun z => hne (k i z)⟩
theorem Fr.look {S : List Nat} {i : Nat} {st st1 : Sto} {o : MO} (h : Fr S st st1) (hi : st[i]? = some o) (hne : i ∉ S) : st1[i]? = some o := by
  rw [h.at_ i (List.getElem?_eq_some_iff.mp hi).1 hne]
  exact hi
theorem Jg.fr {j : Nat} {st st1 : Sto} (h : Jg j st st1) : Fr [j] st st1 := ⟨h.le, fun i hi hne => h.at_ i hi (by simpa using hne)⟩
theorem list_lt {st : Sto} {i : Nat} {xs : List MV} (hx : CS.listOf st i = some xs) : i < st.length := by
  unfold CS.listOf at hx
  cases q : st[i]? with
  | none => rw [q] at hx; cases hx
  | some o => exact (List.getElem?_eq_some_iff.mp q).1
theorem Fr.list {S : List Nat} {i : Nat} {st st1 : Sto} {xs : List MV} (g : Fr S st st1) (hx : CS.listOf st i = some xs) (hne : i ∉ S) : CS.listOf st1 i = some xs := by
  have hi := list_lt hx
  unfold CS.listOf at hx ⊢
  rw [g.at_ i hi hne]
  exact hx
theorem Jg.list {j i : Nat} {st st1 : Sto} {xs : List MV} (g : Jg j st st1) (hx : CS.listOf st i = some xs) (hne : i ≠ j) : CS.listOf st1 i = some xs := g.fr.list hx (by simpa using hne)
theorem gc_keep {st st' : Sto} {i : Nat} {a b : MO} (h : st[i]? = some a) (h' : st'[i]? = some b) (ne : a ≠ b) (lo : lowO st.length b = false) : gcS st st' = st' := by
  unfold gcS
  rw [if_neg]
  intro z
  have hi := (List.getElem?_eq_some_iff.mp h).1
  have w := List.all_eq_true.mp z i (List.mem_range.mpr hi)
  simp only [h, h', lo, Bool.or_false] at w
  first | exact ne (eqO_of w) | exact ne (eqO_of w).symm
end CS
namespace CS
open PySem PySem.Spec PyProof.Rows L2
def tupB : PyData → Bool
  | .tuple (_ :: _) => true
  | _ => false
def notTB : PyData → Bool
  | .none => false
  | .tuple _ => false
  | _ => true
def okS (ds : List PyData) : Bool := (ds.all fun d => ds.all fun e => PySem.W.alike d e) && (ds.all tupB || ds.all notTB) && ds.all fun d => decide (d.depth ≤ 10)
noncomputable def ordG {α : Type} (b : Bool) (xs : List α) (ds : List PyData) : List α := ((xs.zip ds).mergeSort (PySem.W.dataLe b fun p => p.2)).map (·.1)
noncomputable def sortG (b : Bool) (xs : List MV) (st : Sto) : R MV := match xs with
  | [x] => (match seqM x st with
    | some ys => (match dataMs st 30 ys with
      | some ds => if okS ds && decide (ys.length ≤ sizeLine) then ret (.ref st.length) (st ++ [.lst (ordG b ys ds)]) else none
      | none => none)
    | none => none)
  | _ => none
theorem okS_alike {ds : List PyData} (h : okS ds = true) : PySem.W.AllAlike ds := fun d h1 e h2 => by
  unfold okS at h
  rw [Bool.and_eq_true, Bool.and_eq_true] at h
  exact List.all_eq_true.mp (List.all_eq_true.mp h.1.1 d h1) e h2
theorem okS_sort {ds : List PyData} (h : okS ds = true) : PySem.W.Sortable ds := by
  unfold okS at h
  rw [Bool.and_eq_true, Bool.and_eq_true, Bool.or_eq_true] at h
  rcases h.1.2 with k | k
  · refine .inl fun d hd => ?_
    have := List.all_eq_true.mp k d hd
    unfold tupB at this
    split at this
    · exact ⟨_, _, rfl⟩
    · cases this
  · refine .inr fun d hd => ?_
    have := List.all_eq_true.mp k d hd
    unfold notTB at this
    split at this
    · cases this
    · cases this
    · rename_i h1 h2
      exact ⟨fun z => h1 z, fun xs z => h2 xs z⟩
theorem okS_depth {ds : List PyData} (h : okS ds = true) {d : PyData} (hd : d ∈ ds) : d.depth ≤ 10 := by
  unfold okS at h
  rw [Bool.and_eq_true, Bool.and_eq_true] at h
  exact of_decide_eq_true (List.all_eq_true.mp h.2 d hd)
theorem sort_seq {prog : Program} {w : World} {A : Around} {s : Shared} {E : Value → Shared → Prop} {l : Addr} {T : String} {o : Obj} {items : Array Value} {n : Nat} {kw : List (Str × Value)} {b : Bool} {κ : Heap → PyProof.Rows.KeyKind} {Q : Value → Shared → Prop} (hT : T = "list" ∨ T = "tuple") (ho : s.heap.get? l = some o) (hcl : o.cls = .type T) (hd : o.data = .seq items n) (hsz : items.size ≤ sizeLine)
    (ha1 : argsOk "sorted" ⟨[.ref l], kw⟩) (ha2 : ∀ x, argsOk "list.sort" ⟨[.ref x], kw⟩) (hk : ∀ a, Builtin.«list.sort» ⟨[.ref a], kw⟩ = Builtin.«list.sort» ⟨[.ref a], [(Str.ofString "reverse", .bool b)]⟩)
    (S : ∀ h' : Heap, (∀ b o, s.heap.get? b = some o → h'.get? b = some o) → PySem.W.SortsAt prog w A.in1.in1 { s with heap := h' } (κ h') items.toList)
    (h : ∀ (h' h2 : Heap) (a : Addr), (∀ b o, s.heap.get? b = some o → h'.get? b = some o) → (∀ b o, s.heap.get? b = some o → h2.get? b = some o) → s.heap.get? a = none → (∃ ep, h'.get? a = some (seqObj "list" (PySem.W.sortVals (κ h2) b items.toList items.toList).toArray ep)) → Q (.ref a) { s with heap := h' }) :
    wpAny (model prog w) A (call (.builtin "sorted") [.ref l] kw) Q E s := by
  refine call_function_entry_kw kind_sorted plain_sorted entry_sorted ha1 ?_
  unfold Builtin.«sorted»
  refine wpAny_bind (m := checkCount "sorted" 1 1 _) (wpAny_pure ?_)
  refine wpAny_bind (wpAny_collect_seq l hT ho hcl hd (fun h1 kp1 => ?_) hsz)
  have hlz : items.toList.length ≤ sizeLine := by rw [Array.length_toList]; exact hsz
  refine wpAny_bind (wpAny_newList ?_ hlz)
  have hoA : (h1.push (seqObj "list" items.toList.toArray 0)).get? h1.objs.size = some (seqObj "list" items.toList.toArray 0) := Heap.get?_push_size _ rfl
  refine wpAny_bind (wpAny_holding (wpAny_call_entry_kw slot_list_sort ⟨_, hoA, rfl⟩ entry_list_sort ?body (ha2 _)))
  case body =>
    show wpAny (model prog w) A.in1.in1 (Builtin.«list.sort» ⟨[.ref h1.objs.size], kw⟩) _ _ _
    rw [hk]
    have kp2 : ∀ b o, s.heap.get? b = some o → (h1.push (seqObj "list" items.toList.toArray 0)).get? b = some o := fun b o e => Heap.get?_push_of_some _ (kp1 b o e)
    have hlt : ∀ b o, s.heap.get? b = some o → b ≠ h1.objs.size := fun b o e => Nat.ne_of_lt (Heap.lt_size (kp1 b o e))
    have kp3 : ∀ b o, s.heap.get? b = some o → (PySem.W.sortingHeap (h1.push (seqObj "list" items.toList.toArray 0)) h1.objs.size items.toList).get? b = some o := fun b o e => PySem.W.sortingHeap_old (hlt b o e) (kp2 b o e)
    refine PySem.W.list_sort_rev_vals (s := { s with heap := h1.push (seqObj "list" items.toList.toArray 0) }) hoA (S _ kp3) hlz ?_
    refine ⟨_, rfl, wpAny_pure ⟨_, rfl, ?_⟩⟩
    obtain ⟨ep, hep⟩ := sortedHeap_at (vs := items.toList) (out := (PySem.W.sortVals (κ _) b items.toList items.toList).toArray) hoA
    have szA : (h1.push (seqObj "list" items.toList.toArray 0)).objs.size = h1.objs.size + 1 := Heap.size_push _ _
    refine h _ _ h1.objs.size (fun b o e => ?_) kp3 ?_ ⟨ep, hep⟩
    · rw [sortedHeap_old (hlt b o e) (by rw [szA]; exact Nat.lt_succ_of_lt (Heap.lt_size (kp1 b o e)))]
      exact kp2 b o e
    · cases z : s.heap.get? h1.objs.size with
      | none => rfl
      | some o => exact absurd rfl (hlt _ _ z)
theorem obj_some {P : Program} {w : World} {H : Hp} {h : Heap} {a : Addr} {o : HO} (x : ObjOk P w H h a o) : ∃ u, h.get? a = some u := by
  induction o with
  | lst xs => obtain ⟨z, its, n, r, e⟩ := x; exact ⟨_, e⟩
  | tup xs => obtain ⟨z, its, r, ob, e, c⟩ := x; exact ⟨_, e⟩
  | dK kvs => obtain ⟨z, y, vs, r, ob, es, ep, e, c⟩ := x; exact ⟨_, e⟩
  | dT kvs => obtain ⟨z, y, xs, r, ob, es, ep, e, c⟩ := x; exact ⟨_, e⟩
  | set S n => obtain ⟨ob, es, ep, t, e, c⟩ := x; exact ⟨_, e⟩
  | ins C dx fs => obtain ⟨d, z, ne, e, mA, _, r⟩ := x; exact ⟨_, e⟩
  | own y => obtain ⟨ob, e⟩ := x; exact ⟨_, e⟩
  | xd fs => obtain ⟨mA, ⟨od, es, ep, e, c⟩, r⟩ := x; exact ⟨_, e⟩
  | rng lo hi => obtain ⟨t, u, v, e⟩ := x; exact ⟨_, e⟩
  | frz ob u ih => obtain ⟨e, q⟩ := x; exact ⟨_, e⟩
  | tbl ps => exact ⟨_, x⟩
  | met f y => exact ⟨_, x⟩
  | ext φ => obtain ⟨p, ⟨o, e⟩, st⟩ := x; exact ⟨_, e⟩
def rSrtG (K : PySem.W.Frag) (b : Bool) (vs : List V) (H : Hp) (Q : VK) : Prop := ∃ (a : Addr) (ws : List V) (ds : List PyData), vs = [V.ref a] ∧ (SqL K H a ws ∨ SqT K H a ws) ∧ DpAll K H ws ds ∧ okS ds = true ∧ ws.length ≤ sizeLine ∧ ∀ p, H p = none → Q (.ref p) (upd H p (.lst (ordG b ws ds)))
theorem srt_run {X : Cx} {b : Bool} {kw : List (Str × Value)} {pins : List (Addr × Obj)} {s : Shared} {σ : L2.St} {H : Hp} {vs : List V} {us : List Value} {Q : VK} (hu : X.A.units + 64 < cLine) (I : Inv X pins σ H s) (rv : Vals vs us) (h : rSrtG X.K b vs H Q)
    (ha1 : ∀ l, argsOk "sorted" ⟨[.ref l], kw⟩) (ha2 : ∀ x, argsOk "list.sort" ⟨[.ref x], kw⟩) (hk : ∀ a, Builtin.«list.sort» ⟨[.ref a], kw⟩ = Builtin.«list.sort» ⟨[.ref a], [(Str.ofString "reverse", .bool b)]⟩) :
    wpAny (model X.prog X.w) X.A (call (.builtin "sorted") us kw) (EP X pins σ Q) X.xe s := by
  obtain ⟨a, ws, ds, rfl, hs, hp, ok, hz, q⟩ := h
  obtain rfl := Vals.ref1 rv
  obtain ⟨T, o, items, n, hT, ho, hcl, hd, hv, hsz⟩ : ∃ (T : String) (o : Obj) (items : Array Value) (n : Nat), (T = "list" ∨ T = "tuple") ∧ s.heap.get? a = some o ∧ o.cls = .type T ∧ o.data = .seq items n ∧ Vals ws items.toList ∧ items.size ≤ sizeLine := by
    rcases hs with h | h
    · obtain ⟨its, rv, ⟨o, n, e, h1, h2, h3⟩, hz2⟩ := I.list h
      exact ⟨"list", o, its.toArray, n, .inl rfl, e, h1, h3, by simpa using rv, by rw [List.size_toArray, ← rv.length]; exact hz2⟩
    · obtain ⟨its, rv, ⟨o, e, h1, n, h3⟩, hz2⟩ := I.tuple h
      exact ⟨"tuple", o, its.toArray, n, .inr rfl, e, h1, h3, by simpa using rv, by rw [List.size_toArray, ← rv.length]; exact hz2⟩
  have each : ∀ {ws : List V} {ds : List PyData} {its : List Value}, DpAll X.K H ws ds → Vals ws its → ∃ T : List (V × PyData), T = ws.zip ds ∧ T.map (·.2) = ds ∧ PySem.W.EachIs (fun v (t : V × PyData) => RelV t.1 v) its T ∧ PySem.W.EachIs (fun v (t : V × PyData) => ∃ as, Reads s.heap v t.2 as) its T := by
    intro ws
    induction ws with
    | nil => intro ds its h1 h2; cases h1; cases h2; exact ⟨[], rfl, rfl, .nil, .nil⟩
    | cons w ws ih =>
      intro ds its h1 h2
      cases h1 with
      | cons g1 h1 =>
        cases h2 with
        | cons ru h2 =>
          obtain ⟨T, e1, e2, e3, e4⟩ := ih h1 h2
          obtain ⟨as, rd⟩ := Dp.reads I _ _ _ g1 ru
          exact ⟨_ :: T, by rw [e1]; rfl, by rw [List.map_cons, e2], .cons ru e3, .cons ⟨as, rd⟩ e4⟩
  obtain ⟨T', t1, t2, t3, t4⟩ := each hp hv
  have hal : PySem.W.AllAlike (T'.map (·.2)) := by rw [t2]; exact okS_alike ok
  have hsr : PySem.W.Sortable (T'.map (·.2)) := by rw [t2]; exact okS_sort ok
  have keeps : ∀ h' : Heap, (∀ b o, s.heap.get? b = some o → h'.get? b = some o) → PySem.W.EachIs (fun v (t : V × PyData) => ∃ as, Reads h' v t.2 as) items.toList T' := fun h' k => t4.mono fun _ _ ⟨as, r⟩ => ⟨as, PyProof.Rows.Reads.keeps k r⟩
  have hlen : items.toList.length = T'.length := t3.length
  have hvl : items.toList.length = ws.length := hv.length.symm
  refine sort_seq (κ := fun h' => PySem.W.dataKind h' (T'.map (·.2))) hT ho hcl hd hsz (ha1 _) ha2 hk (fun h' k => ?_) fun h' h2 p k1 k2 hn ⟨ep, hep⟩ => ?_
  · refine PySem.W.SortsAt.data (s := { s with heap := h' }) (PySem.W.each_map (R := fun v d => ∃ as, Reads h' v d as) (fun t : V × PyData => t.2) (keeps h' k)) hal hsr fun d hd => ?_
    rw [t2] at hd
    have := okS_depth ok hd
    show X.A.units + 1 + 1 + d.depth < cLine
    omega
  · have e3 := PySem.W.sortVals_data (h' := h2) (enc := fun t : V × PyData => t.2) b t3 (keeps h2 k2) hal
    have hv2 : Vals (ordG b ws ds) (PySem.W.sortVals (PySem.W.dataKind h2 (T'.map (·.2))) b items.toList items.toList) := by
      have go : ∀ {l1 : List Value} {l2 : List (V × PyData)}, PySem.W.EachIs (fun v (t : V × PyData) => RelV t.1 v) l1 l2 → Vals (l2.map (·.1)) l1 := by
        intro l1 l2 e
        induction e with
        | nil => exact .nil
        | cons h _ ih => exact .cons h ih
      unfold ordG
      rw [← t1]
      exact go e3
    have hnH : H p = none := by
      cases z : H p with
      | none => rfl
      | some o =>
        obtain ⟨u, hu⟩ := obj_some (I.hok p o z)
        rw [hn] at hu
        cases hu
    have hlz : (ordG b ws ds).length ≤ sizeLine := by
      unfold ordG
      rw [List.length_map, List.length_mergeSort, List.length_zip]
      exact Nat.le_trans (Nat.min_le_left _ _) hz
    exact ⟨.ref p, _, I.laidN (t' := s.toks) (o := .lst (ordG b ws ds)) k1 hn hnH ⟨hlz, _, ep, hv2, hep⟩, rfl, q p hnH⟩
section
variable {A : AD} {X : Cx} {W : WX}
theorem all_len {K : PySem.W.Frag} {H : Hp} : ∀ {ws : List V} {ds : List PyData}, DpAll K H ws ds → ws.length = ds.length
  | _, _, .nil => rfl
  | _, _, .cons _ h => by rw [List.length_cons, List.length_cons, all_len h]
theorem ord_rvs {c : GC} {m : List Addr} {H : Hp} {b : Bool} {ys : List MV} {ws : List V} {ds : List PyData} (h : RVs c m H ys ws) (hl : ws.length = ds.length) : RVs c m H (ordG b ys ds) (ordG b ws ds) := by
  have key : ∀ {ys : List MV} {ws : List V} {ds : List PyData}, RVs c m H ys ws → ds.length = ys.length → ∃ T : List (MV × V × PyData), T.map (fun t => (t.1, t.2.2)) = ys.zip ds ∧ T.map (fun t => (t.2.1, t.2.2)) = ws.zip ds ∧ ∀ t ∈ T, RV c m H t.1 t.2.1 := by
    intro ys ws ds h
    induction ys generalizing ws ds with
    | nil => intro hl; cases h; exact ⟨[], by simp, by simp, by simp⟩
    | cons y ys ih =>
      intro hl
      cases h with
      | cons h1 h2 =>
        cases ds with
        | nil => simp at hl
        | cons k ks =>
          obtain ⟨T, e1, e2, e3⟩ := ih h2 (by simpa using hl)
          refine ⟨(y, _, k) :: T, by rw [List.map_cons, e1]; rfl, by rw [List.map_cons, e2]; rfl, ?_⟩
          intro t ht
          rcases List.mem_cons.mp ht with e | ht
          · rw [e]; exact h1
          · exact e3 t ht
  obtain ⟨T, e1, e2, e3⟩ := key h (by rw [h.length]; exact hl.symm)
  unfold ordG
  rw [← e1, ← e2, ← List.map_mergeSort (r := PySem.W.dataLe b fun x : MV × V × PyData => x.2.2) (by intro a _ b _; rfl), ← List.map_mergeSort (r := PySem.W.dataLe b fun x : MV × V × PyData => x.2.2) (by intro a _ b _; rfl), List.map_map, List.map_map]
  have all : ∀ l : List (MV × V × PyData), (∀ t ∈ l, RV c m H t.1 t.2.1) → RVs c m H (l.map ((fun x => x.1) ∘ fun t => (t.1, t.2.2))) (l.map ((fun x => x.1) ∘ fun t => (t.2.1, t.2.2))) := by
    intro l
    induction l with
    | nil => intro _; exact .nil
    | cons t l ih => intro h; exact .cons (h t List.mem_cons_self) (ih fun t ht => h t (List.mem_cons_of_mem _ ht))
  exact all _ fun t ht => e3 t (List.mem_mergeSort.mp ht)
theorem srt_of {b : Bool} {m : List Addr} {st : Sto} {σ : L2.St} {H : Hp} {xs : List MV} {us : List V} {Q : VK} (r : Rel (gc A X) m st H) (hus : RVs (gc A X) m H xs us) (k : Run (gc A X) W σ m H (sortG b xs st) (kV (gc A X) Q)) : rSrtG X.K b us H Q := by
  unfold sortG at k
  split at k
  · rename_i x
    cases hus with
    | @cons _ u _ _ hx hn =>
    cases hn
    cases q : seqM x st with
    | none => rw [q] at k; exact k.elim
    | some ys =>
      rw [q] at k
      dsimp only at k
      cases q1 : dataMs st 30 ys with
      | none => rw [q1] at k; exact k.elim
      | some ds =>
        rw [q1] at k
        dsimp only at k
        split at k
        · rename_i ok
          rw [Bool.and_eq_true] at ok
          obtain ⟨lq, ws, rfl, hsq, hxs⟩ : ∃ (lq : Addr) (ws : List V), u = V.ref lq ∧ (SqL X.K H lq ws ∨ SqT X.K H lq ws) ∧ RVs (gc A X) m H ys ws := by
            cases hx with
            | tup hs hv => cases q; exact ⟨_, _, rfl, .inr hs.toT, hv⟩
            | ref hi =>
              obtain ⟨ws, g1, g2⟩ := r.list q hi
              exact ⟨_, ws, rfl, .inl g1, g2⟩
            | _ => cases q
          have hp := (dp_of r 30).2 ys ws ds hxs q1
          have hl := of_decide_eq_true ok.2
          exact ⟨lq, ws, ds, rfl, hsq, hp, ok.1, by rw [← hxs.length]; exact hl, new_lst r (ord_rvs hxs (all_len hp)) k⟩
        · exact k.elim
  · exact k.elim
theorem cl_sortG (hu : X.A.units + 64 < cLine) : ClM A X W (.builtin "sorted") (sortG false) :=
  ⟨_, fun pins s σ H vs us Q I rv h => srt_run hu I rv h (fun _ => args_sorted1 _) (fun _ => args_list_sort _) PySem.W.plain_is_rev, fun m st σ H xs us Q r hus k => srt_of r hus k⟩
def ClMK (A : AD) (X : Cx) (W : WX) (f : Value) (ks : List Str) (g : List MV → List MV → Sto → R MV) : Prop :=
  ∃ r : List V → List V → Hp → VK → Prop, CallRK X f ks r ∧ ∀ (m : List Addr) (st : Sto) (σ : L2.St) (H : Hp) (xs zs : List MV) (us ws : List V) (Q : VK), Rel (gc A X) m st H → RVs (gc A X) m H xs us → RVs (gc A X) m H zs ws → Run (gc A X) W σ m H (g xs zs st) (kV (gc A X) Q) → r us ws H Q
noncomputable def sortGK (xs zs : List MV) (st : Sto) : R MV := match zs with
  | [.bl b] => sortG b xs st
  | _ => none
theorem cl_sortK (hu : X.A.units + 64 < cLine) : ClMK A X W (.builtin "sorted") [Str.ofString "reverse"] sortGK := by
  refine ⟨fun vs zs H Q => ∃ b, zs = [V.bl b] ∧ rSrtG X.K b vs H Q, fun pins s σ H vs zs us ws Q I rv rz h => ?_, fun m st σ H xs zs us ws Q r hus hzs k => ?_⟩
  · obtain ⟨b, rfl, h⟩ := h
    obtain ⟨w1, rfl, e1⟩ := vals1 rz
    obtain rfl : w1 = Value.bool b := e1
    exact srt_run hu I rv h (fun _ => args_sorted_rev _ _) (fun _ => args_list_sort_rev _ _) fun _ => rfl
  · unfold sortGK at k
    split at k
    · rename_i b
      cases hzs with
      | cons h1 h2 =>
      cases h1
      cases h2
      exact ⟨b, rfl, srt_of r hus k⟩
    · exact k.elim
theorem pm_callBK {x : Str} {id : String} {p pos : Pos} {e : Expr} {es : List Expr} {kws : List Keyword} {ks : List Str} {fa fk : DA} {g : List MV → List MV → Sto → R MV} (h : ClMK A X W (.builtin id) ks g) (hg : Gl X x) (hm : X.mg x = none) (hv : bootBuiltins x = some (.builtin id)) (ha : PMA A X W (e :: es) fa) (hk : PMK A X W kws fk) (hn : x ≠ "__name__") (hdb : (x == ("__debug__" : Str)) = false)
    (he : backTo pos (starEach (e :: es) X.env) = (false, eval e X.env) :: backTo pos (starEach es X.env)) (hpl : (backTo pos (starEach (e :: es) X.env)).any (·.1) = false)
    (hall : (backToKw pos (keywordEach kws X.env)).all (·.1.isSome) = true) (hnone : (backToKw pos (keywordEach kws X.env)).any (·.1.isNone) = false) (hks : (backToKw pos (keywordEach kws X.env)).filterMap (·.1) = ks) :
    PM A X W (.Call (.Name x p) (e :: es) kws pos) (eCallK g fa fk) := by
  obtain ⟨r, hc, hr⟩ := h
  refine (pe_callBK hc hg hm hv ha hk hn hdb he hpl hall hnone hks).imp fun σ H Q ⟨m, ρ, st, rl, v, k⟩ => ?_
  refine tMA.thenG rl v k fun xs us st1 m1 H1 r1 e1 v1 hus k1 => ?_
  refine tMA.thenG r1 v1 k1 fun zs ws st2 m2 H2 r2 e2 v2 hzs k2 => ?_
  exact hr m2 st2 σ H2 xs zs us ws Q r2 (hus.mono e2) hzs k2
end
end CS
namespace CS
open PySem PySem.Spec PyProof.Rows L2
theorem dataLe_int {β : Type} {b : Bool} (f : β → Int) (x y : β) : PySem.W.dataLe b (fun z => PyData.int (f z)) x y = if b then decide (f y ≤ f x) else decide (f x ≤ f y) := by
  show cond b (!PyProof.Rows.lexLt PyProof.Rows.itemOrd (PySem.W.keyToks (.int (f x))) (PySem.W.keyToks (.int (f y)))) (!PyProof.Rows.lexLt PyProof.Rows.itemOrd (PySem.W.keyToks (.int (f y))) (PySem.W.keyToks (.int (f x)))) = _
  simp only [PySem.W.keyToks, PyProof.Rows.lexLt, PyProof.Rows.itemLt]
  generalize f x = p
  generalize f y = q
  cases b
  · by_cases h : q < p
    · have h3 : ¬ p ≤ q := by omega
      simp [h, h3]
    · have h3 : p ≤ q := by omega
      simp [h, h3]
  · by_cases h : p < q
    · have h3 : ¬ q ≤ p := by omega
      simp [h, h3]
    · have h3 : q ≤ p := by omega
      simp [h, h3]
def sortI (b : Bool) (is : List Int) : List Int := is.mergeSort fun x y => if b then decide (y ≤ x) else decide (x ≤ y)
theorem datas_ints {st : Sto} (is : List Int) : dataMs st 30 (is.map .int) = some (is.map .int) := by
  induction is with
  | nil => exact dM_nil
  | cons i is ih => rw [List.map_cons, List.map_cons]; exact dM_cons dM_int ih
theorem datas_pairs {st : Sto} (ks : List IP) : dataMs st 30 (ks.map fun k => MV.tup [.int k.1, .int k.2]) = some (ks.map kd) := by
  induction ks with
  | nil => exact dM_nil
  | cons k ks ih =>
    rw [List.map_cons, List.map_cons]
    refine dM_cons ?_ ih
    rw [dM_tup, dM_cons dM_int (dM_cons dM_int dM_nil)]
    rfl
theorem okS_ints (is : List Int) : okS (is.map .int) = true := by
  unfold okS
  simp [PySem.W.alike, tupB, notTB, PyData.depth]
theorem okS_pairs (ks : List IP) : okS (ks.map kd) = true := by
  unfold okS
  simp [kd, PySem.W.alike, PySem.W.alikeAll, tupB, notTB, PyData.depth, PyData.depthAll]
theorem zip_map {α β γ : Type} (f : α → β) (g : α → γ) : ∀ l : List α, (l.map f).zip (l.map g) = l.map fun a => (f a, g a)
  | [] => rfl
  | a :: l => by rw [List.map_cons, List.map_cons, List.map_cons, List.zip_cons_cons, zip_map f g l]
theorem m_sortInts {b : Bool} {x : MV} {st : Sto} {is : List Int} (h : seqM x st = some (is.map .int)) (hl : is.length ≤ sizeLine) : sortG b [x] st = ret (.ref st.length) (st ++ [.lst ((sortI b is).map .int)]) := by
  unfold sortG
  simp only [h, datas_ints, okS_ints, List.length_map, hl, decide_true, Bool.and_self, if_true]
  have e : ordG b (is.map MV.int) (is.map PyData.int) = (sortI b is).map .int := by
    unfold ordG sortI
    rw [zip_map, ← List.map_mergeSort (r := fun x y : Int => if b then decide (y ≤ x) else decide (x ≤ y)) (by intro a _ c _; rw [← dataLe_int (b := b) (fun i : Int => i) a c]; rfl), List.map_map]
    rfl
  rw [e]
theorem m_sortPairs {x : MV} {st : Sto} {ks : List IP} (h : seqM x st = some (ks.map fun k => .tup [.int k.1, .int k.2])) (hl : ks.length ≤ sizeLine) : sortG false [x] st = ret (.ref st.length) (st ++ [.lst ((sortIP ks).map fun k => .tup [.int k.1, .int k.2])]) := by
  unfold sortG
  simp only [h, datas_pairs, okS_pairs, List.length_map, hl, decide_true, Bool.and_self, if_true]
  have e : ordG false (ks.map fun k => MV.tup [.int k.1, .int k.2]) (ks.map kd) = (sortIP ks).map fun k => .tup [.int k.1, .int k.2] := by
    unfold ordG sortIP
    rw [zip_map, ← List.map_mergeSort (r := fun x y : IP => leP x y) (by intro a _ c _; rw [← dataLe_kd (fun i : IP => i) a c]; rfl), List.map_map]
    rfl
  rw [e]
theorem sortI_perm {b : Bool} {is : List Int} : (sortI b is).Perm is := List.mergeSort_perm _ _
theorem sortI_up {is : List Int} : (sortI false is).Pairwise (· ≤ ·) := by
  have h := List.pairwise_mergeSort (le := fun x y : Int => decide (x ≤ y)) (by intro a b c; simp; omega) (by intro a b; simp; omega) is
  have e : sortI false is = is.mergeSort fun x y => decide (x ≤ y) := by unfold sortI; simp
  rw [e]
  exact h.imp fun z => of_decide_eq_true z
theorem sortI_down {is : List Int} : (sortI true is).Pairwise (· ≥ ·) := by
  have h := List.pairwise_mergeSort (le := fun x y : Int => decide (y ≤ x)) (by intro a b c; simp; omega) (by intro a b; simp; omega) is
  have e : sortI true is = is.mergeSort fun x y => decide (y ≤ x) := by unfold sortI; simp
  rw [e]
  exact h.imp fun z => of_decide_eq_true z
theorem sortI_eq {is js : List Int} (hp : js.Perm is) (hs : js.Pairwise (· ≤ ·)) : sortI false is = js := (sortI_perm.trans hp.symm).eq_of_pairwise (fun a b _ _ h1 h2 => Int.le_antisymm h1 h2) sortI_up hs
section
variable {A : AD} {X : Cx} {W : WX}
def sPr3 (i j l : Nat) (f : DA) : DS := fun ρ st => sb ρ (f ρ st) fun xs st1 => match xs with | [u, v, w] => some (.nx, ((ρ.set i (some u)).set j (some v)).set l (some w), st1) | _ => none
theorem pms_par3 {i j l : Nat} {x y z : Str} {a b c : Expr} {f : DA} {px py pz pt pos : Pos} {kt k2 pt2} (hc : X.calm = true) (hN : X.N.Nodup) (hi : X.N[i]? = some x) (hj : X.N[j]? = some y) (hl : X.N[l]? = some z) (hij : i ≠ j) (hil : i ≠ l) (hjl : j ≠ l)
    (hx : X.env.scope.names.lookup x = some .local) (hy : X.env.scope.names.lookup y = some .local) (hz : X.env.scope.names.lookup z = some .local) (ha : PMA A X W [a, b, c] f)
    (hw : swappedStores [.Tuple [.Name x px, .Name y py, .Name z pz] kt pt] (.Tuple [a, b, c] k2 pt2) X.env = pure (some [x, y, z])) (hs : swapsWithSole [.Tuple [.Name x px, .Name y py, .Name z pz] kt pt] (.Tuple [a, b, c] k2 pt2) pos.line X.env = pure false) :
    PMS A X W (.Assign [.Tuple [.Name x px, .Name y py, .Name z pz] kt pt] (.Tuple [a, b, c] k2 pt2) pos) (sPr3 i j l f) := by
  refine (ps_par3 hc hN hi hj hl hij hil hjl hx hy hz ha hw hs).imp fun D σ H ⟨m, ρ, st, r, w, k⟩ => ⟨m, ρ, st, r, w, (SRun.sb k w).imp fun xs st1 m1 H1 r1 e1 k1 us hus => ?_⟩
  match xs, us, hus, k1 with
  | [v, w', w2], [u, z, z2], .cons h1 (.cons h2 (.cons h3 .nil)), k1 => exact ⟨u, z, z2, rfl, k1 m1 H1 _ .refl r1 ((((w.mono e1).set h1).set h2).set h3)⟩
end
@[simp] theorem s_pr3 {PS : Fl → MEnv → Sto → Prop} {ρ : MEnv} {st : Sto} {i j l : Nat} {f : DA} : WpS (sPr3 i j l f ρ st) PS = Wp (f ρ st) (fun xs st1 => WpS (match xs with | [u, v, w] => some (.nx, ((ρ.set i (some u)).set j (some v)).set l (some w), st1) | _ => none) PS) (fun x st => PS (.exc x) ρ st) := by unfold sPr3; simp only [wps_sb] <;> rfl
end CS
namespace CS
open PySem L2
theorem filt_take {α : Type} {b : α → Bool} {l : List α} {i : Nat} (h : i < l.length) : (l.take (i + 1)).filter b = (l.take i).filter b ++ if b l[i] then [l[i]] else [] := by
  rw [List.take_succ_eq_append_getElem h, List.filter_append]
  congr 1
  by_cases q : b l[i] <;> simp [q]
theorem lc_pure {α : Type} {it : IM} {t : CT} {p : DB} {f : DE} {ρ : MEnv} {st : Sto} (l : List α) (x : α → MV) (b : α → Bool) (y : α → MV) {n : Nat} (hn : n = l.length) (hc : it.cnt = l.length) (hg : ∀ (i : Nat) (h : i < l.length), it.get i st = some (x l[i])) (hf : it.fin st = true)
    (h : ∀ a ∈ l, ∃ ρ1, ctM t (x a) ρ = some ρ1 ∧ Wp (p ρ1 st) (fun k st1 => k = b a ∧ st1 = st) ∧ (b a = true → Wp (f ρ1 st) fun v st1 => v = y a ∧ st1 = st)) : lcM it t p f n 0 ρ st = ret ((l.filter b).map y) st := by
  subst hn
  have key : Wp (lcM it t p f l.length 0 ρ st) fun xs st1 => xs = (l.filter b).map y ∧ st1 = st := by
    refine wp_lcN hc (fun i acc st1 => st1 = st ∧ acc = ((l.take i).filter b).map y) ⟨rfl, by simp⟩ (fun i acc st1 hi hI => ?_) (fun acc st1 hI => ?_)
    · obtain ⟨rfl, rfl⟩ := hI
      obtain ⟨ρ1, h1, h2, h3⟩ := h l[i] (List.getElem_mem hi)
      refine ⟨_, ρ1, hg i hi, h1, ?_⟩
      refine h2.imp fun k st2 ⟨hk, hs⟩ => ?_
      subst hk hs
      rw [filt_take hi]
      cases q : b l[i] with
      | false => simp [q]
      | true =>
        simp only [if_true]
        refine (h3 q).imp fun v st3 ⟨hv, hs⟩ => ?_
        subst hv hs
        simp [q]
    · obtain ⟨rfl, rfl⟩ := hI
      exact ⟨hf, by rw [List.take_length], rfl⟩
  obtain ⟨xs, st1, e, rfl, rfl⟩ := key.get
  exact e
theorem lc_grow {α : Type} {it : IM} {t : CT} {p : DB} {f : DE} {ρ : MEnv} {st : Sto} (l : List α) (x : α → MV) (b : α → Bool) (y : α → MV) {n : Nat} (hn : n = l.length) (hc : it.cnt = l.length) (hg : ∀ (i : Nat) (h : i < l.length) (u : Sto), it.get i (st ++ u) = some (x l[i])) (hf : ∀ u, it.fin (st ++ u) = true)
    (h : ∀ a ∈ l, ∀ u, ∃ ρ1, ctM t (x a) ρ = some ρ1 ∧ Wp (p ρ1 (st ++ u)) (fun k st1 => k = b a ∧ (∃ u', st1 = st ++ u') ∧ (b a = true → Wp (f ρ1 st1) fun v st2 => v = y a ∧ ∃ u', st2 = st ++ u'))) : Wp (lcM it t p f n 0 ρ st) fun xs st1 => xs = (l.filter b).map y ∧ ∃ u, st1 = st ++ u := by
  subst hn
  refine wp_lcN hc (fun i acc st1 => (∃ u, st1 = st ++ u) ∧ acc = ((l.take i).filter b).map y) ⟨⟨[], by simp⟩, by simp⟩ (fun i acc st1 hi hI => ?_) (fun acc st1 hI => ?_)
  · obtain ⟨⟨u, rfl⟩, rfl⟩ := hI
    obtain ⟨ρ1, h1, h2⟩ := h l[i] (List.getElem_mem hi) u
    refine ⟨_, ρ1, hg i hi u, h1, ?_⟩
    refine h2.imp fun k st2 ⟨hk, ⟨u', hs⟩, h3⟩ => ?_
    subst hk hs
    rw [filt_take hi]
    cases q : b l[i] with
    | false => simp [q]
    | true =>
      simp only [if_true]
      refine (h3 q).imp fun v st3 ⟨hv, u2, hs⟩ => ?_
      subst hv hs
      exact ⟨⟨u2, rfl⟩, by simp⟩
  · obtain ⟨⟨u, rfl⟩, rfl⟩ := hI
    exact ⟨hf u, by rw [List.take_length], u, rfl⟩
theorem get_map {α : Type} {f : α → MV} {l : List α} {i : Nat} {st : Sto} (h : i < l.length) : IM.get (.sq (.t (l.map f))) i st = some (f l[i]) := by simp [h]
theorem get_mapE {α : Type} {f : α → MV} {l : List α} {i : Nat} {st : Sto} (h : i < l.length) : IM.get (.en (.t (l.map f))) i st = some (.tup [.int i, f l[i]]) := by simp [h]
theorem get_mapL {α : Type} {f : α → MV} {l : List α} {i r n : Nat} {st : Sto} (hL : CS.listOf st r = some (l.map f)) (hn : n = l.length) (h : i < l.length) : IM.get (.sq (.l r n)) i st = some (f l[i]) := by
  subst hn
  have z := get_l (m := i) hL
  rw [List.length_map] at z
  rw [get_sq, z]
  simp [h]
theorem fin_mapL {α : Type} {f : α → MV} {l : List α} {r n : Nat} {st : Sto} (hL : CS.listOf st r = some (l.map f)) (hn : n = l.length) : IM.fin (.sq (.l r n)) st = true := by
  subst hn
  have z := fin_l hL
  rw [List.length_map] at z
  rw [fin_sq]
  exact z
theorem list_app {st t : Sto} {i : Nat} {xs : List MV} (h : CS.listOf st i = some xs) : CS.listOf (st ++ t) i = some xs := (Fr.app (S := []) Fr.refl t).list h (by simp)
theorem at_app {st : Sto} {w : Nat} {a : MO} {t : Sto} (h : st[w]? = some a) : (st ++ t)[w]? = some a := by
  rw [List.getElem?_append_left (List.getElem?_eq_some_iff.mp h).1]
  exact h
theorem at_set {st : Sto} {w p : Nat} {a b : MO} (h : st[p]? = some a) (hne : p ≠ w) : (st.set w b)[p]? = some a := by
  rw [List.getElem?_set_ne (Ne.symm hne)]
  exact h
end CS
namespace CS
open PySem PySem.Spec L2
theorem bndN_assoc {α β γ : Type} {r : R α} {f : α → Sto → R β} {g : β → Sto → R γ} : bndN (bndN r f) g = bndN r fun a st => bndN (f a st) g := by
  match r with
  | none => rfl
  | some (.error x, st) => rfl
  | some (.ok a, st) => rfl
def lcF (it : IM) (t : CT) (p : DB) (F : MEnv → Sto → R (List MV)) : Nat → Nat → MEnv → Sto → R (List MV)
  | 0, _, _, st => if it.fin st then ret [] st else none
  | n + 1, k, ρ, st => match it.get k st with
    | none => none
    | some x => match ctM t x ρ with
      | none => none
      | some ρ1 => bndN (p ρ1 st) fun b st1 => if b then bndN (F ρ1 st1) fun ys st2 => bndN (lcF it t p F n (k + 1) ρ st2) fun zs st3 => ret (ys ++ zs) st3
        else lcF it t p F n (k + 1) ρ st1
def inF2 (fi1 : DI) (t1 : CT) (p1 : DB) (f : DE) (vs1 : List Nat) : MEnv → Sto → R (List MV) := fun ρ st => bndN (fi1 ρ st) fun it1 st1 => if it1.cnt ≤ 1000 then lcM it1 t1 p1 f it1.cnt 0 (wipeM ρ vs1) st1 else none
def eLc2 (fi : DI) (t : CT) (p : DB) (fi1 : DI) (t1 : CT) (p1 : DB) (f : DE) (vs vs1 : List Nat) : DA := fun ρ st => bnd (fi ρ st) fun it st1 => if it.cnt ≤ 1000 then lcF it t p (inF2 fi1 t1 p1 f vs1) it.cnt 0 (wipeM ρ vs) st1 else none
def LcW2 (c : GC) (Hs : Hp) (W : WX) (σr σ : L2.St) (m0 : List Addr) (H0 : Hp) (D : Addr) (it : IM) (ρ : MEnv) (go : Nat → Nat → MEnv → Sto → R (List MV)) (Q : VK) (i n : Nat) (H : Hp) : Prop :=
  i + n = it.cnt ∧ ∃ m st acc vs, Ext c m0 H0 m H ∧ Rel c m st H ∧ REnv c m H ρ σ ∧ H D = some (.lst vs) ∧ D ∉ m ∧ RVs c m H acc vs ∧ acc.length ≤ i * 1000 ∧ Run c W σr m0 H0 (go n i ρ st) (kL c Hs Q acc)
def LcW1 (c : GC) (Hs : Hp) (W : WX) (σr σ σ1 : L2.St) (m0 : List Addr) (H0 : Hp) (m1 : List Addr) (H1 : Hp) (D : Addr) (it1 : IM) (ρ ρ1 : MEnv) (go1 : Nat → Nat → MEnv → Sto → R (List MV)) (rest : Sto → R (List MV)) (Q : VK) (b j n : Nat) (H : Hp) : Prop :=
  j + n = it1.cnt ∧ ∃ m st acc vs, Ext c m0 H0 m H ∧ Gr c m1 H1 m H ∧ Rel c m st H ∧ REnv c m H ρ σ ∧ REnv c m H ρ1 σ1 ∧ H D = some (.lst vs) ∧ D ∉ m ∧ RVs c m H acc vs ∧ acc.length ≤ b + j ∧
    Run c W σr m0 H0 (bndN (go1 n j ρ1 st) fun ys st2 => bndN (rest st2) fun zs st3 => ret (ys ++ zs) st3) (kL c Hs Q acc)
theorem Gr.trans {c : GC} {m m1 m2 : List Addr} {H H1 H2 : Hp} (h : Gr c m H m1 H1) (k : Gr c m1 H1 m2 H2) : Gr c m H m2 H2 := by
  obtain ⟨t, rfl⟩ := h.pre
  obtain ⟨u, rfl⟩ := k.pre
  exact ⟨⟨t ++ u, by rw [List.append_assoc]⟩, fun b xs z => k.tup b xs (h.tup b xs z)⟩
theorem run_nil {c : GC} {W : WX} {σ : L2.St} {m : List Addr} {H : Hp} {r : R (List MV)} {K : Kn (List MV)} (h : Run c W σ m H (bndN r fun zs st3 => ret ([] ++ zs) st3) K) : Run c W σ m H r K := by
  match r, h with
  | none, h => exact h
  | some (.error x, st), h => exact h.elim
  | some (.ok ys, st), h => exact h
theorem run_more {c : GC} {W : WX} {σ : L2.St} {m : List Addr} {Hs H : Hp} {Q : VK} {acc : List MV} {y : MV} {r : R (List MV)} {rest : Sto → R (List MV)} (h : Run c W σ m H (bndN (bndN r fun ys st3 => ret (y :: ys) st3) fun ys st2 => bndN (rest st2) fun zs st3 => ret (ys ++ zs) st3) (kL c Hs Q acc)) :
    Run c W σ m H (bndN r fun ys st2 => bndN (rest st2) fun zs st3 => ret (ys ++ zs) st3) (kL c Hs Q (acc ++ [y])) := by
  match r, h with
  | none, h => exact h
  | some (.error x, st), h => exact h.elim
  | some (.ok ys, st), h =>
    have h : Run c W σ m H (bndN (rest st) fun zs st3 => ret ((y :: ys) ++ zs) st3) (kL c Hs Q acc) := h
    show Run c W σ m H (bndN (rest st) fun zs st3 => ret (ys ++ zs) st3) (kL c Hs Q (acc ++ [y]))
    generalize rest st = rr at h ⊢
    match rr, h with
    | none, h => exact h
    | some (.error x, st), h => exact h.elim
    | some (.ok zs, st), h => exact fun m1 H1 e1 r1 D vs h0 h1 h2 h3 => h m1 H1 e1 r1 D vs h0 h1 h2 (by simpa using h3)
section
variable {A : AD} {X : Cx} {W : WX} {tg elt iter tg1 iter1 : Expr} {ifs ifs1 : List Expr} {scope : Scope} {own : List (Str × Nat)} {pos : Pos} {fi fi1 : DI} {t t1 : CT} {p p1 : DB} {f : DE} {vs1 : List Nat}
theorem lc1_turn {c : GC} {σ σ2 : L2.St} {m0 m1 : List Addr} {Hs H0 H1 H : Hp} {D : Addr} {it1 : IM} {J1 : It} {ρ ρ1 : MEnv} {Q : VK} {b j n : Nat} {vs : List Nat} {rest : Sto → R (List MV)} {Nx : Hp → Prop} (hJ : ItOk c it1 J1 m1 H1) (h00 : c.H0 D = none) (h0 : H0 D = none) (hi : ∀ j ∈ t1.slots, j ∈ vs1) (hb : b + 1000 < sizeLine) (hc : it1.cnt ≤ 1000) 
    (hx : ∀ m st acc us H', Ext c m0 H0 m H' → Rel c m st H' → REnv c m H' ρ (wipe σ vs) → H' D = some (.lst us) → D ∉ m → RVs c m H' acc us → acc.length ≤ b + 1000 → Run c W σ m0 H0 (rest st) (kL c Hs Q acc) → Nx H')
    (h : LcW1 c Hs W σ (wipe σ vs) (wipe σ2 vs1) m0 H0 m1 H1 D it1 ρ ρ1 (lcM it1 t1 p1 f) rest Q b j n H) :
    (J1.stop j H ∧ Nx H) ∨ (J1.go j H ∧ ∃ Nx1 : Hp → Prop, (∀ H', Nx1 H' → ∃ n', n' < n ∧ LcW1 c Hs W σ (wipe σ vs) (wipe σ2 vs1) m0 H0 m1 H1 D it1 ρ ρ1 (lcM it1 t1 p1 f) rest Q b (j + 1) n' H') ∧ ∀ x H', J1.yld j H x H' → ctG c.K t1 x (wipe σ2 vs1) H' fun σ3 H5 => wipe σ3 vs1 = wipe σ2 vs1 ∧ tMB c W0 p1 σ3 H5 fun b H6 =>
      if b = true then tM c W0 f σ3 H6 fun y H7 => ∃ acc, H7 D = some (.lst acc) ∧ acc.length < sizeLine ∧ Nx1 (upd H7 D (.lst (acc ++ [y]))) else Nx1 H6) := by
  obtain ⟨hn, m, st, acc, us, e, e1, r, v, v1, hD, hm, hv, hl, k⟩ := h
  cases n with
  | zero =>
    unfold lcM at k
    split at k
    · rename_i hf
      have hj : j = it1.cnt := by omega
      exact .inl ⟨by rw [hj]; exact hJ.stop m st H e1 r hf, hx m st acc us H e r v hD hm hv (by omega) (run_nil k)⟩
    · exact k.elim
  | succ n =>
    unfold lcM at k
    cases q : it1.get j st with
    | none => simp only [q] at k; exact k.elim
    | some x =>
      simp only [q] at k
      obtain ⟨go, yl⟩ := hJ.go j m st H x e1 r q
      refine .inr ⟨go, fun H' => LcW1 c Hs W σ (wipe σ vs) (wipe σ2 vs1) m0 H0 m1 H1 D it1 ρ ρ1 (lcM it1 t1 p1 f) rest Q b (j + 1) n H', fun H' z => ⟨n, Nat.lt_succ_self n, z⟩, fun u H2 y => ?_⟩
      obtain ⟨e2, r2, rv⟩ := yl u H2 y
      obtain ⟨hD2, hm2⟩ := e2.keepD hD hm
      cases q2 : ctM t1 x ρ1 with
      | none => simp only [q2] at k; exact k.elim
      | some ρ3 =>
        simp only [q2] at k
        rw [bndN_assoc] at k
        refine ct_ok (v1.mono e2) rv q2 hi fun σ3 v3 hw3 => ⟨hw3.trans (wipe_wipe σ2 vs1), m, ρ3, st, r2, v3, k.bndN.imp fun b2 st3 m3 H3 r3 e3 k3 => ?_⟩
        obtain ⟨hD3, hm3⟩ := e3.keepD hD2 hm2
        have E3 : Ext c m H m3 H3 := e2.trans e3
        cases b2 with
        | true =>
          rw [if_pos rfl]
          simp only [if_true] at k3
          rw [bndN_assoc] at k3
          refine ⟨m3, ρ3, st3, r3, v3.mono e3, k3.bndN.imp fun y st4 m4 H4 r4 e4 k4 u4 hu4 => ?_⟩
          obtain ⟨hD4, hm4⟩ := e4.keepD hD3 hm3
          have E4 : Ext c m H m4 H4 := E3.trans e4
          have g : Gr c m4 H4 m4 (upd H4 D (.lst (us ++ [u4]))) := gr_off hD4
          have l1 := hv.length
          exact ⟨us, hD4, by omega, by omega, m4, st4, acc ++ [y], us ++ [u4], (e.trans E4).off h0 hD4, (e1.trans E4.toGr).trans g, r4.off h00 hD4 hm4, (v.mono E4).gr g, (v1.mono E4).gr g, upd_same, hm4, ((hv.mono E4).append (.cons hu4 .nil)).gr g, by simp; omega, run_more k4⟩
        | false =>
          rw [if_neg Bool.false_ne_true]
          simp only [Bool.false_eq_true, if_false] at k3
          exact ⟨by omega, m3, st3, acc, us, e.trans E3, e1.trans E3.toGr, r3, v.mono E3, v1.mono E3, hD3, hm3, hv.mono E3, by omega, k3⟩
theorem lc2_turn {c : GC} {σ : L2.St} {m0 : List Addr} {Hs H0 H : Hp} {D : Addr} {it : IM} {J : It} {ρ : MEnv} {Q : VK} {i n : Nat} {vs : List Nat} (hJ : ItOk c it J m0 H0) (hs0 : Hs D = none) (h0 : H0 D = none) (h00 : c.H0 D = none) (hi : ∀ j ∈ t.slots, j ∈ vs) (hi1 : ∀ j ∈ t1.slots, j ∈ vs1) (hc : it.cnt ≤ 1000)
    (h : LcW2 c Hs W σ (wipe σ vs) m0 H0 D it ρ (lcF it t p (inF2 fi1 t1 p1 f vs1)) Q i n H) :
    (J.stop i H ∧ Q (.ref D) H) ∨ (J.go i H ∧ ∃ Nx : Hp → Prop, (∀ H', Nx H' → ∃ n', n' < n ∧ LcW2 c Hs W σ (wipe σ vs) m0 H0 D it ρ (lcF it t p (inF2 fi1 t1 p1 f vs1)) Q (i + 1) n' H') ∧ ∀ x H', J.yld i H x H' → ctG c.K t x (wipe σ vs) H' fun σ2 H2 => wipe σ2 vs = wipe σ vs ∧ tMB c W0 p σ2 H2 fun b H3 =>
      if b = true then tMI c W0 fi1 σ2 H3 fun J1 H4 => ∃ W1 : Nat → Nat → Hp → Prop, (∃ m, W1 0 m H4) ∧ ∀ j k H, W1 j k H →
        (J1.stop j H ∧ Nx H) ∨ (J1.go j H ∧ ∃ Nx1 : Hp → Prop, (∀ H', Nx1 H' → ∃ k', k' < k ∧ W1 (j + 1) k' H') ∧ ∀ x H', J1.yld j H x H' → ctG c.K t1 x (wipe σ2 vs1) H' fun σ3 H5 => wipe σ3 vs1 = wipe σ2 vs1 ∧ tMB c W0 p1 σ3 H5 fun b H6 =>
          if b = true then tM c W0 f σ3 H6 fun y H7 => ∃ acc, H7 D = some (.lst acc) ∧ acc.length < sizeLine ∧ Nx1 (upd H7 D (.lst (acc ++ [y]))) else Nx1 H6)
      else Nx H3) := by
  have hz := sizeLine_eq
  obtain ⟨hn, m, st, acc, us, e, r, v, hD, hm, hv, hl, k⟩ := h
  cases n with
  | zero =>
    unfold lcF at k
    split at k
    · rename_i hf
      have hi : i = it.cnt := by omega
      exact .inl ⟨by rw [hi]; exact hJ.stop m st H e.toGr r hf, Run.ok k e r D us hs0 hD hm (by simpa using hv)⟩
    · exact k.elim
  | succ n =>
    unfold lcF at k
    cases q : it.get i st with
    | none => simp only [q] at k; exact k.elim
    | some x =>
      simp only [q] at k
      obtain ⟨go, yl⟩ := hJ.go i m st H x e.toGr r q
      refine .inr ⟨go, fun H' => LcW2 c Hs W σ (wipe σ vs) m0 H0 D it ρ (lcF it t p (inF2 fi1 t1 p1 f vs1)) Q (i + 1) n H', fun H' z => ⟨n, Nat.lt_succ_self n, z⟩, fun u H1 y => ?_⟩
      obtain ⟨e1, r1, rv⟩ := yl u H1 y
      obtain ⟨hD1, hm1⟩ := e1.keepD hD hm
      cases q2 : ctM t x ρ with
      | none => simp only [q2] at k; exact k.elim
      | some ρ1 =>
        simp only [q2] at k
        refine ct_ok (v.mono e1) rv q2 hi fun σ2 v2 hw => ⟨hw.trans (wipe_wipe σ vs), m, ρ1, st, r1, v2, k.bndN.imp fun b st3 m3 H3 r3 e3 k3 => ?_⟩
        obtain ⟨hD3, hm3⟩ := e3.keepD hD1 hm1
        have E3 : Ext c m H m3 H3 := e1.trans e3
        cases b with
        | true =>
          rw [if_pos rfl]
          simp only [if_true] at k3
          unfold inF2 at k3
          rw [bndN_assoc] at k3
          refine ⟨m3, ρ1, st3, r3, v2.mono e3, k3.bndN.imp fun it1 st4 m4 H4 r4 e4 k4 J1 hJ1 => ?_⟩
          obtain ⟨hD4, hm4⟩ := e4.keepD hD3 hm3
          have E4 : Ext c m H m4 H4 := E3.trans e4
          by_cases hc1 : it1.cnt ≤ 1000
          · simp only [hc1, if_true] at k4
            refine ⟨LcW1 c Hs W σ (wipe σ vs) (wipe σ2 vs1) m0 H0 m4 H4 D it1 ρ (wipeM ρ1 vs1) (lcM it1 t1 p1 f) (fun st => lcF it t p (inF2 fi1 t1 p1 f vs1) n (i + 1) ρ st) Q (i * 1000), ⟨it1.cnt, by omega, m4, st4, acc, us, e.trans E4, ⟨⟨[], by simp⟩, fun _ _ z => z⟩, r4, v.mono E4, (v2.mono (e3.trans e4)).wipe _, hD4, hm4, hv.mono E4, by omega, k4⟩, fun j k H' hh => ?_⟩
            refine lc1_turn hJ1 h00 h0 hi1 (by omega) hc1 (fun m5 st5 acc5 us5 H5 a1 a2 a3 a4 a5 a6 a7 a8 => ?_) hh
            exact ⟨by omega, m5, st5, acc5, us5, a1, a2, a3, a4, a5, a6, by omega, a8⟩
          · simp only [hc1, if_false] at k4
            exact k4.elim
        | false =>
          rw [if_neg Bool.false_ne_true]
          simp only [Bool.false_eq_true, if_false] at k3
          exact ⟨by omega, m3, st3, acc, us, e.trans E3, r3, v.mono E3, hD3, hm3, hv.mono E3, by omega, k3⟩
theorem lc2_imp {m : List Addr} {ρ : MEnv} {st : Sto} {σ : L2.St} {H : Hp} {Q : VK} {own : List Nat} (r : Rel (gc A X) m st H) (v : REnv (gc A X) m H ρ σ) (k : Run (gc A X) W σ m H (eLc2 fi t p fi1 t1 p1 f own vs1 ρ st) (kL (gc A X) H Q [])) (hsl : ∀ j ∈ t.slots, j ∈ own) (hsl1 : ∀ j ∈ t1.slots, j ∈ vs1) :
    tLc2 (tMI (gc A X) W fi) (ctG X.K t) (tMB (gc A X) W0 p) (tMI (gc A X) W0 fi1) (ctG X.K t1) (tMB (gc A X) W0 p1) (tM (gc A X) W0 f) own vs1 σ H Q := by
  refine ⟨m, ρ, st, r, v, k.bnd.imp fun it st1 m1 H1 r1 e1 k1 J hJ D hD => ?_⟩
  split at k1
  · rename_i hcn
    refine ⟨LcW2 (gc A X) H W σ (wipe σ own) m1 H1 D it (wipeM ρ own) (lcF it t p (inF2 fi1 t1 p1 f vs1)) Q, ⟨it.cnt, by omega, m1, st1, [], [], ext_new hD, r1.same (upd_keeps hD), ((v.mono e1).wipe _).mono (ext_new hD), upd_same, fun z => ?_, .nil, by simp, ?_⟩, fun i n H2 h => lc2_turn hJ (by cases q : H D with
      | none => rfl
      | some o => exact absurd hD (e1.live D (by rw [q]; simp))) hD (by cases q : (gc A X).H0 D with
      | none => rfl
      | some o => exact absurd hD (r1.gr.live D (by rw [q]; simp))) hsl hsl1 hcn h⟩
    · obtain ⟨u, hu⟩ := r1.mem z
      rw [hD] at hu; cases hu
    · exact k1
  · exact k1.elim
theorem pml_lc2 (hc : X.calm = true) (hN : X.N.Nodup) (hi : PMI A X W tg iter fi) (ok : BlkOk X.N X.env.scope scope own) (hv : ∀ i ∈ vs1, i ∈ own.map (·.2))
    (hg : ∀ (s : Shared) (H : Hp) (C : Addr) (cl : List (Str × Addr)) (fp : List Addr), PG (X.blk s H scope (compEnvC scope cl C X.env) fp) tg (ctG X.K t)) (ht : ∀ (s : Shared) (H : Hp) (C : Addr) (cl : List (Str × Addr)) (fp : List Addr), PTs (X.blk s H scope (compEnvC scope cl C X.env) fp) ifs (tMB (gc A X) W0 p))
    (hi1 : ∀ (s : Shared) (H : Hp) (C : Addr) (cl : List (Str × Addr)) (fp : List Addr), PI (X.blk s H scope (compEnvC scope cl C X.env) fp) tg1 iter1 (tMI (gc A X) W0 fi1))
    (hg1 : ∀ (s : Shared) (H : Hp) (C : Addr) (cl : List (Str × Addr)) (fp : List Addr), PG (X.blk s H scope (compEnvC scope cl C X.env) fp) tg1 (ctG X.K t1)) (ht1 : ∀ (s : Shared) (H : Hp) (C : Addr) (cl : List (Str × Addr)) (fp : List Addr), PTs (X.blk s H scope (compEnvC scope cl C X.env) fp) ifs1 (tMB (gc A X) W0 p1))
    (he : ∀ (s : Shared) (H : Hp) (C : Addr) (cl : List (Str × Addr)) (fp : List Addr), PE (X.blk s H scope (compEnvC scope cl C X.env) fp) elt (tM (gc A X) W0 f)) (hs : ∀ x, foldedSetIterable iter X.env x = pure x) (hs1 : ∀ env x, foldedSetIterable iter1 env x = pure x) (hsl : ∀ j ∈ t.slots, j ∈ own.map (·.2)) (hsl1 : ∀ j ∈ t1.slots, j ∈ vs1) :
    PML A X W (.ListComp elt [⟨tg, iter, ifs, 0⟩, ⟨tg1, iter1, ifs1, 0⟩] scope pos) (eLc2 fi t p fi1 t1 p1 f (own.map (·.2)) vs1) :=
  (pe_lc2 hc hN hi ok hv hg ht hi1 hg1 ht1 he hs hs1).imp fun σ H Q ⟨m, ρ, st, r, v, k⟩ => lc2_imp r v k hsl hsl1
end
end CS
namespace CS
open PySem PySem.Spec L2
section
variable {A : AD} {X : Cx} {W : WX} {tg elt iter tg1 iter1 : Expr} {ifs ifs1 : List Expr} {scope : Scope} {own : List (Str × Nat)} {pos : Pos} {fi fi1 : DI} {t t1 : CT} {p p1 : DB} {f : DE} {vs1 : List Nat}
theorem pms_setLc2 {i : Nat} {y : Str} {py spos : Pos} (hc : X.calm = true) (hN : X.N.Nodup) (hy : X.N[i]? = some y) (hyl : X.env.scope.names.lookup y = some .local)
    (hsw : swapsWith (.ListComp elt [⟨tg, iter, ifs, 0⟩, ⟨tg1, iter1, ifs1, 0⟩] scope pos) (some (.Name y py)) spos.line X.env = pure true) (hi : PMI A X W tg iter fi) (ok : BlkOk X.N X.env.scope scope own) (hv : ∀ i ∈ vs1, i ∈ own.map (·.2))
    (hg : ∀ (s : Shared) (H : Hp) (C : Addr) (cl : List (Str × Addr)) (fp : List Addr), PG (X.blk s H scope (compEnvC scope cl C X.env) fp) tg (ctG X.K t)) (ht : ∀ (s : Shared) (H : Hp) (C : Addr) (cl : List (Str × Addr)) (fp : List Addr), PTs (X.blk s H scope (compEnvC scope cl C X.env) fp) ifs (tMB (gc A X) W0 p))
    (hi1 : ∀ (s : Shared) (H : Hp) (C : Addr) (cl : List (Str × Addr)) (fp : List Addr), PI (X.blk s H scope (compEnvC scope cl C X.env) fp) tg1 iter1 (tMI (gc A X) W0 fi1))
    (hg1 : ∀ (s : Shared) (H : Hp) (C : Addr) (cl : List (Str × Addr)) (fp : List Addr), PG (X.blk s H scope (compEnvC scope cl C X.env) fp) tg1 (ctG X.K t1)) (ht1 : ∀ (s : Shared) (H : Hp) (C : Addr) (cl : List (Str × Addr)) (fp : List Addr), PTs (X.blk s H scope (compEnvC scope cl C X.env) fp) ifs1 (tMB (gc A X) W0 p1))
    (he : ∀ (s : Shared) (H : Hp) (C : Addr) (cl : List (Str × Addr)) (fp : List Addr), PE (X.blk s H scope (compEnvC scope cl C X.env) fp) elt (tM (gc A X) W0 f)) (hs : ∀ x, foldedSetIterable iter X.env x = pure x) (hs1 : ∀ env x, foldedSetIterable iter1 env x = pure x) (hsl : ∀ j ∈ t.slots, j ∈ own.map (·.2)) (hsl1 : ∀ j ∈ t1.slots, j ∈ vs1) :
    PMS A X W (.Assign [.Name y py] (.ListComp elt [⟨tg, iter, ifs, 0⟩, ⟨tg1, iter1, ifs1, 0⟩] scope pos) spos) (sLc i (eLc2 fi t p fi1 t1 p1 f (own.map (·.2)) vs1)) := by
  refine (ps_setLc2 hc hN hy hyl hsw hi ok hv hg ht hi1 hg1 ht1 he hs hs1).imp fun D σ H ⟨m, ρ, st, r, v, k⟩ => ?_
  refine lc2_imp (ρ := ρ) r v ?_ hsl hsl1
  unfold sLc sb at k
  revert k
  generalize eLc2 fi t p fi1 t1 p1 f (own.map (·.2)) vs1 ρ st = rr
  intro k
  match rr, k with
  | none, k => exact k
  | some (.error x, st1), k => exact fun m1 H1 cls d e1 r1 x1 => k m1 H1 σ cls d e1 r1 (v.mono e1) x1
  | some (.ok xs, st1), k =>
    intro m1 H1 e1 r1 D' vs h0 hD hm hv
    obtain ⟨e2, r2⟩ := adopt (xs := xs) r.gr.live e1 r1 h0 hD hm (by simpa using hv)
    exact k _ _ _ e2 r2 ((v.mono e2).set (.ref (by rw [← r1.len]; simp)))
end
@[simp] theorem e_lc2 {ρ : MEnv} {st : Sto} {X : MX → Sto → Prop} {fi fi1 : DI} {t t1 : CT} {p p1 : DB} {f : DE} {vs vs1 : List Nat} {P : List MV → Sto → Prop} : Wp (eLc2 fi t p fi1 t1 p1 f vs vs1 ρ st) P X = Wp (fi ρ st) (fun it st1 => if it.cnt ≤ 1000 then Wp (lcF it t p (inF2 fi1 t1 p1 f vs1) it.cnt 0 (wipeM ρ vs) st1) P X else False) X := by unfold eLc2; simp only [wp_bnd, wp_ite, wp_none]
theorem lcF_pure {α : Type} {it : IM} {t : CT} {F : MEnv → Sto → R (List MV)} {ρ : MEnv} {st : Sto} (l : List α) (x : α → MV) (y : α → List MV) (hc : it.cnt = l.length) (hg : ∀ (i : Nat) (h : i < l.length), it.get i st = some (x l[i])) (hf : it.fin st = true)
    (h : ∀ a ∈ l, ∃ ρ1, ctM t (x a) ρ = some ρ1 ∧ F ρ1 st = ret (y a) st) : lcF it t bYes F l.length 0 ρ st = ret (l.map y).flatten st := by
  have key : ∀ n i, i + n = l.length → lcF it t bYes F n i ρ st = ret ((l.drop i).map y).flatten st := by
    intro n
    induction n with
    | zero =>
      intro i hi
      unfold lcF
      rw [if_pos hf, List.drop_of_length_le (by omega)]
      rfl
    | succ n ih =>
      intro i hi
      have hl : i < l.length := by omega
      obtain ⟨ρ1, h1, h2⟩ := h l[i] (List.getElem_mem hl)
      unfold lcF
      simp only [hg i hl, h1]
      show (if true = true then bndN (F ρ1 st) (fun ys st2 => bndN (lcF it t bYes F n (i + 1) ρ st2) fun zs st3 => ret (ys ++ zs) st3) else lcF it t bYes F n (i + 1) ρ st) = _
      rw [if_pos rfl, h2]
      show bndN (lcF it t bYes F n (i + 1) ρ st) (fun zs st3 => ret (y l[i] ++ zs) st3) = _
      rw [ih (i + 1) (by omega), List.drop_eq_getElem_cons hl, List.map_cons, List.flatten_cons]
      rfl
  have := key l.length 0 (by omega)
  rw [List.drop_zero] at this
  exact this
end CS
namespace CS
open PySem PySem.Spec PyProof.Rows L2
section
variable {A : AD} {X : Cx} {W : WX}
theorem get_list : PGet X (rIxL X.K) := by
  intro pins s σ H x y v u Q I rx ry h
  obtain ⟨p, xs, i, z, rfl, rfl, hq, he, q⟩ := h
  cases rx
  obtain ⟨t, rfl⟩ := ry
  obtain ⟨its, r, pl, hz⟩ := I.list hq
  obtain ⟨j, h1, h2, h3, h4, h5⟩ := atI_get he
  obtain ⟨w, ew, rw'⟩ := r.get h2
  have hl := r.length
  have hn := line63
  have fin : EP X pins σ Q w s := ⟨z, H, I, rw', q⟩
  by_cases h0 : 0 ≤ i
  · have hj : i.toNat = j := by
      rw [seqIndex_of h0 h5] at h1
      exact Option.some.inj h1
    exact wpAny_getItem_list (Q := EP X pins σ Q) (x := w) pl.isList h0 (by omega) (by rw [hj]; simpa using ew) fin
  · have hj : (i + (its.toArray.size : Int)).toNat = j := by
      rw [seqIndex_neg (by omega) h4] at h1
      rw [List.size_toArray, ← hl]
      exact Option.some.inj h1
    exact wpAny_getItem_list_neg (Q := EP X pins σ Q) (x := w) pl.isList (by omega) (by rw [List.size_toArray] <;> omega) (by omega) (by rw [hj]; simpa using ew) fin
def sAgS (fo fi fe : DE) (g : MV → MV → Sto → R MV) : DS := fun ρ st => sb ρ (fo ρ st) fun o st1 => sb ρ (fi ρ st1) fun i st2 => match o, i with
  | .ref j, .int k => (match listOf st2 j with
    | some xs => (match atI xs k with
      | some x => sb ρ (fe ρ st2) fun y st3 => sb ρ (g x y st3) fun z st4 => (match setM (.ref j) (.int k) z st4 with | some st5 => some (.nx, ρ, st5) | none => none)
      | none => none)
    | none => none)
  | _, _ => none
theorem pms_augS {o i e : Expr} {fo fi fe : DE} {op : Operator} {g : MV → MV → Sto → R MV} {tpos pos : Pos} (ho : PM A X W o fo) (hi : PM A X W i fi) (he : PM A X W e fe) (hp : OpM A X W (inplaceOp op) g)
    (ha : ∀ ov iv new, augStore i ov iv new = (do holding [new, ov, iv] (setItem ov iv new); release [new, ov, iv] []; pure .next)) : PMS A X W (.AugAssign (.Subscript o i tpos) op e pos) (sAgS fo fi fe g) := by
  obtain ⟨r2, h2, q2⟩ := hp
  refine (ps_augS ho hi get_list he h2 set_list ha).imp fun D σ H ⟨m, ρ, st, r, w, k⟩ => ?_
  refine ⟨m, ρ, st, r, w, (SRun.sb k w).imp fun ov st1 m1 H1 r1 e1 k1 u1 hu1 => ?_⟩
  refine ⟨m1, ρ, st1, r1, w.mono e1, (SRun.sb k1 (w.mono e1)).imp fun iv st2 m2 H2 r2' e2 k2 u2 hu2 => ?_⟩
  have ho2 := hu1.mono e2
  have w2 := w.mono (e1.trans e2)
  split at k2
  · rename_i j kk
    cases ho2 with
    | @ref j a hj =>
    cases hu2
    cases q : listOf st2 j with
    | none => simp only [q] at k2; exact k2.elim
    | some xs =>
      simp only [q] at k2
      obtain ⟨vs, hs, hv⟩ := r2'.list q hj
      cases q3 : atI xs kk with
      | none => simp only [q3] at k2; exact k2.elim
      | some x =>
        simp only [q3] at k2
        obtain ⟨u, h1, h3⟩ := atI_rvs hv q3
        refine ⟨a, vs, kk, u, rfl, rfl, hs, h1, ?_⟩
        refine ⟨m2, ρ, st2, r2', w2, (SRun.sb k2 w2).imp fun y st3 m3 H3 r3 e3 k3 uy hy => ?_⟩
        refine q2 m3 st3 σ H3 x y u uy _ r3 (h3.mono e3) hy ((SRun.sb k3 (w2.mono e3)).imp fun z st4 m4 H4 r4 e4 k4 uz hz => ?_)
        cases q4 : setM (.ref j) (.int kk) z st4 with
        | none => simp only [q4] at k4; exact k4.elim
        | some st5 =>
          simp only [q4] at k4
          unfold setM at q4
          dsimp only at q4
          split at q4
          · rename_i ys e
            have hj4 := (e3.trans e4).at hj
            obtain ⟨vs4, g1, hv4⟩ := r4.lst e hj4
            cases q5 : ixN ys.length kk with
            | none => rw [q5] at q4; cases q4
            | some n =>
              rw [q5] at q4
              cases q4
              obtain ⟨r5, e5⟩ := r4.setLst e hj4 (RVs.set hz n hv4)
              refine ⟨a, vs4, kk, n, rfl, rfl, g1, by rw [← hv4.length]; exact q5, ?_⟩
              exact k4 m4 _ σ e5 r5 (w2.mono (e3.trans (e4.trans e5)))
          · cases q4
  · exact k2.elim
def addI (x y : MV) (st : Sto) : R MV := match x, y with
  | .int i, .int j => ret (.int (i + j)) st
  | _, _ => none
def subI (x y : MV) (st : Sto) : R MV := match x, y with
  | .int i, .int j => ret (.int (i - j)) st
  | _, _ => none
theorem op_addI : OpM A X W (inplaceOp .Add) addI := ⟨_, ip_add, fun m st σ H x y u v Q r hx hy k => by
  unfold addI at k
  split at k
  · cases hx
    cases hy
    exact ⟨_, _, rfl, rfl, k.ok .refl r _ (.int _)⟩
  · exact k.elim⟩
theorem op_subI : OpM A X W (inplaceOp .Sub) subI := ⟨_, ip_sub, fun m st σ H x y u v Q r hx hy k => by
  unfold subI at k
  split at k
  · cases hx
    cases hy
    exact ⟨_, _, rfl, rfl, k.ok .refl r _ (.int _)⟩
  · exact k.elim⟩
end
@[simp] theorem s_agS {ρ : MEnv} {st : Sto} {PS : Fl → MEnv → Sto → Prop} {fo fi fe : DE} {g : MV → MV → Sto → R MV} : WpS (sAgS fo fi fe g ρ st) PS = Wp (fo ρ st) (fun o st1 => Wp (fi ρ st1) (fun i st2 => WpS (match o, i with
  | .ref j, .int k => (match listOf st2 j with
    | some xs => (match atI xs k with
      | some x => sb ρ (fe ρ st2) fun y st3 => sb ρ (g x y st3) fun z st4 => (match setM (.ref j) (.int k) z st4 with | some st5 => some (.nx, ρ, st5) | none => none)
      | none => none)
    | none => none)
  | _, _ => none) PS) (fun x st => PS (.exc x) ρ st)) (fun x st => PS (.exc x) ρ st) := by unfold sAgS; simp only [wps_sb] <;> rfl
@[simp] theorem s_au {ρ : MEnv} {st : Sto} {PS : Fl → MEnv → Sto → Prop} {i : Nat} {f : DE} {g : MV → MV → Sto → R MV} : WpS (sAu i f g ρ st) PS = WpS (match ρ[i]? with
  | some (some x) => sb ρ (f ρ st) fun y st1 => sb ρ (g x y st1) fun z st2 => some (.nx, ρ.set i (some z), st2)
  | _ => none) PS := by unfold sAu; rfl
end CS
namespace CS
open PySem PySem.Spec PyProof.Rows L2
section
variable {A : AD} {X : Cx} {W : WX}
def tBMT (K : PySem.W.Frag) (r : V → List V → Hp → VK → Prop) (to : TE) (t : TA) : TE := fun σ H Q => to σ H fun x H1 => (∃ a xs, x = .ref a ∧ SqD K H1 a xs) ∧ t σ H1 fun ys H2 => r x ys H2 Q
theorem pe_bmT {name : Str} {id : String} {o e : Expr} {to : TE} {t : TA} {apos cpos : Pos} {r : V → List V → Hp → VK → Prop} (slot : Slot "tuple" name id) (hty : typeOf (.builtin id) = pure (.type "method_descriptor")) (hm : MtR X id r) (ho : PE X o to) (ha : PA X [e] t)
    (hbase : attributeBase o name X.env (eval o X.env) = eval o X.env)
    (hfew : ((backTo cpos (starEach [e] X.env)).all (fun x => !x.1) && (backToKw cpos (keywordEach [] X.env)).all (fun x => x.1.isSome) && decide ([e].length + ([] : List Keyword).length + (if ([] : List Keyword).isEmpty then 0 else 1) < 30)) = true)
    (hline : (apos.endLine == cpos.line) = true) (hs : starEach [e] X.env = (false, eval e X.env) :: starEach [] X.env) : PE X (.Call (.Attribute o name apos) [e] [] cpos) (tBMT X.K r to t) := by
  constructor
  intro pins s σ H Q I h
  refine wpAny_Call_method_late hbase hfew hline rfl (thn (ho.run pins s σ H _ I h) ?_)
  rintro v s1 ⟨x, H1, I1, r1, ⟨a, xs, rfl, hd⟩, q1⟩
  cases r1
  obtain ⟨its, rv, ⟨ob, hob, hcl, _⟩, _⟩ := I1.tuple hd.toT
  have hdict : ∃ ob, s1.heap.get? a = some ob ∧ ob.dict = none := by
    rcases hd with ⟨o2, h2, h3⟩ | ⟨o2, _, _, h2, _, h3, _⟩
    · exact ⟨o2, (I1.hok a _ h2).1, h3⟩
    · exact ⟨o2, I1.kIn a o2 h2, h3⟩
  refine ⟨"tuple", id, PySem.F.plainAttrs_tuple, slot, hty, ⟨ob, hob, hcl⟩, fun b z => by cases z; exact hdict, ?_⟩
  have hA := ha.run cpos pins s1 σ H1 _ I1 q1
  rw [hs] at hA ⊢
  refine Calls.callWith_builtin (by rfl) (Calls.evalArgs_plain ?_)
  refine thn hA ?_
  rintro us s2 ⟨vs, H2, I2, r2, q2⟩
  exact hm pins s2 σ H2 (.ref a) vs (.ref a) us Q I2 rfl r2 q2
def rTixI (K : PySem.W.Frag) (x : V) (xs : List V) (H : Hp) (Q : VK) : Prop := ∃ (p : Addr) (ns : List Int) (k : Int), x = .ref p ∧ xs = [.int k] ∧ SqT K H p (ns.map V.int) ∧ k ∈ ns ∧ Q (.int (ns.idxOf k : Nat)) H
theorem mt_tix : MtR X "tuple.index" (rTixI X.K) := by
  intro pins s σ H x xs v us Q I rx rxs h
  obtain ⟨p, ns, k, rfl, rfl, hs, hk, q⟩ := h
  cases rx
  obtain ⟨u, rfl, ⟨t, rfl⟩⟩ := vals1 rxs
  obtain ⟨its, rv, hl, hz⟩ := I.tuple hs
  exact PySem.SeqAt.tuple_index_ints hl rv.ints hk ⟨.int _, H, I.kept (t' := s.toks + 1) fun _ _ e => e, ⟨_, rfl⟩, q⟩
def eTix (fo fe : DE) : DE := fun ρ st => bnd (fo ρ st) fun x st1 => match x with
  | .tup xs => bnd (fe ρ st1) fun y st2 => (match intsM xs, y with
    | some ns, .int k => if k ∈ ns then ret (.int (ns.idxOf k : Nat)) st2 else none
    | _, _ => none)
  | _ => none
theorem ints_rvs {c : GC} {m : List Addr} {H : Hp} : ∀ {xs : List MV} {vs : List V} {ns : List Int}, RVs c m H xs vs → intsM xs = some ns → vs = ns.map V.int
  | _, _, ns, .nil, h => by cases h; rfl
  | x :: xs, v :: vs, ns, .cons h1 r, h => by
    cases x with
    | int i =>
      have h : (intsM xs).map (i :: ·) = some ns := h
      cases q : intsM xs with
      | none => rw [q] at h; cases h
      | some ns' =>
        rw [q] at h
        cases h
        cases h1
        rw [ints_rvs r q]
        rfl
    | _ => cases h
theorem pm_tix {o e : Expr} {fo fe : DE} {apos cpos : Pos} (ho : PM A X W o fo) (he : PM A X W e fe) (hbase : attributeBase o "index" X.env (eval o X.env) = eval o X.env)
    (hfew : ((backTo cpos (starEach [e] X.env)).all (fun x => !x.1) && (backToKw cpos (keywordEach [] X.env)).all (fun x => x.1.isSome) && decide ([e].length + ([] : List Keyword).length + (if ([] : List Keyword).isEmpty then 0 else 1) < 30)) = true)
    (hline : (apos.endLine == cpos.line) = true) (hs : starEach [e] X.env = (false, eval e X.env) :: starEach [] X.env) : PM A X W (.Call (.Attribute o "index" apos) [e] [] cpos) (eTix fo fe) := by
  refine (pe_bmT PySem.F.slot_tuple_index PySem.F.type_tuple_index mt_tix ho (pa_cons he pa_nil hs) hbase hfew hline hs).imp fun σ H Q ⟨m, ρ, st, r, v, k⟩ => ?_
  refine tM.thenG r v k fun x u st1 m1 H1 r1 e1 v1 hu k1 => ?_
  cases x with
  | tup xs =>
    dsimp only at k1
    cases hu with
    | @tup a _ vs hsq hvs =>
    refine ⟨⟨a, vs, rfl, hsq⟩, ?_⟩
    refine tM.thenG r1 v1 k1 fun y w st2 m2 H2 r2 e2 v2 hw k2 => ?_
    cases q : intsM xs with
    | none => rw [q] at k2; exact k2.elim
    | some ns =>
      rw [q] at k2
      cases y with
      | int kk =>
        dsimp only at k2
        split at k2
        · rename_i hm
          cases hw
          have ev := ints_rvs hvs q
          subst ev
          exact ⟨a, ns, kk, rfl, rfl, (e2.tup a _ hsq).toT, hm, Run.ok k2 .refl r2 _ (.int _)⟩
        · exact k2.elim
      | _ => exact k2.elim
  | _ => exact k1.elim
end
end CS
namespace CS
open PySem L2
theorem wp_while {p : DB} {b : DS} {PS : Fl → MEnv → Sto → Prop} (I : Nat → MEnv → Sto → Prop)
    (hs : ∀ n ρ st, I n ρ st → Wp (p ρ st) (fun k st1 => if k then WpS (b ρ st1) (fun fl ρ' st' => match fl with
      | .nx => ∃ m, m < n ∧ I m ρ' st'
      | .ct => ∃ m, m < n ∧ I m ρ' st'
      | .bk => PS .nx ρ' st'
      | fl => PS fl ρ' st') else PS .nx ρ st1) (fun x st => PS (.exc x) ρ st)) {n : Nat} {ρ : MEnv} {st : Sto} (h : I n ρ st) (hn : n < 2 ^ 250) : WpS (sWh p b ρ st) PS := by
  have key : ∀ k n ρ st, n < k → I n ρ st → WpS (whileM p b k ρ st) PS := by
    intro k
    induction k with
    | zero => intro n ρ st hn; omega
    | succ k ih =>
      intro n ρ st hn h
      have w := hs n ρ st h
      unfold whileM
      rw [wps_sb]
      refine Wp.imp w fun kk st1 w => ?_
      cases kk with
      | false =>
        simp only [Bool.false_eq_true, if_false] at w ⊢
        exact w
      | true =>
        simp only [if_true] at w ⊢
        revert w
        generalize b ρ st1 = r
        intro w
        match r, w with
        | none, w => exact w
        | some (.nx, ρ', st'), w =>
          obtain ⟨m, hm, w⟩ := w
          exact ih m ρ' st' (by omega) w
        | some (.ct, ρ', st'), w =>
          obtain ⟨m, hm, w⟩ := w
          exact ih m ρ' st' (by omega) w
        | some (.bk, ρ', st'), w => exact w
        | some (.rt v, ρ', st'), w => exact w
        | some (.exc x, ρ', st'), w => exact w
  refine key fuelN n ρ st (Nat.lt_of_lt_of_le hn ?_) h
  have e : (2 : Nat) ^ 250 = 2 ^ 250 * 1 * 1 * 1 := by simp only [Nat.mul_one]
  unfold fuelN
  have p : 1 ≤ 2 ^ 250 := Nat.one_le_two_pow
  generalize 2 ^ 250 = z at *
  have a1 : z * 1 ≤ z * z := Nat.mul_le_mul_left z p
  have a2 : z * 1 * 1 ≤ z * z * z := Nat.mul_le_mul a1 p
  have a3 : z * 1 * 1 * 1 ≤ z * z * z * z := Nat.mul_le_mul a2 p
  omega
@[simp] theorem e_tix {ρ : MEnv} {st : Sto} {P : MV → Sto → Prop} {X : MX → Sto → Prop} {fo fe : DE} : Wp (eTix fo fe ρ st) P X = Wp (fo ρ st) (fun x st1 => Wp (match x with
  | .tup xs => bnd (fe ρ st1) fun y st2 => (match intsM xs, y with
    | some ns, .int k => if k ∈ ns then ret (.int (ns.idxOf k : Nat)) st2 else none
    | _, _ => none)
  | _ => none) P X) X := by unfold eTix; simp only [wp_bnd] <;> rfl
def Sm (n : Nat) (i : Int) : Prop := i.natAbs < 2 ^ n
theorem Sm.mono {n m : Nat} {i : Int} (h : Sm n i) (hm : n ≤ m) : Sm m i := Nat.lt_of_lt_of_le h (Nat.pow_le_pow_right (by decide) hm)
theorem Sm.log {n : Nat} {i : Int} (h : Sm n i) : i.natAbs.log2 ≤ n := by
  by_cases z : i.natAbs = 0
  · rw [z]; simp
  · have := (Nat.log2_lt z).mpr h
    omega
theorem Sm.mul {n m : Nat} {i j : Int} (h : Sm n i) (k : Sm m j) : Sm (n + m) (i * j) := by
  unfold Sm at *
  rw [Int.natAbs_mul, Nat.pow_add]
  exact Nat.mul_lt_mul'' h k
theorem Sm.add {n : Nat} {i j : Int} (h : Sm n i) (k : Sm n j) : Sm (n + 1) (i + j) := by
  unfold Sm at *
  rw [Nat.pow_succ]
  have := Int.natAbs_add_le i j
  omega
theorem Sm.neg {n : Nat} {i : Int} (h : Sm n i) : Sm n (-i) := by unfold Sm at *; rw [Int.natAbs_neg]; exact h
theorem sm_of {n : Nat} {i : Int} (h : i.natAbs < 2 ^ n) : Sm n i := h
theorem m_mulS {n m : Nat} {i j : Int} {st : Sto} (h : Sm n i) (k : Sm m j) (hn : n + m < 1000000) : mulM (.int i) (.int j) st = ret (.int (i * j)) st := if_pos (.inr (.inr (by have := h.log; have := k.log; omega)))
theorem m_divS {n : Nat} {i j : Int} {st : Sto} (h0 : 0 < j) (h : Sm n j) (hn : n < 9000) : divM (.int i) (.int j) st = ret (.int (i / j)) st := if_pos ⟨h0, by have := h.log; omega⟩
def fracV (q : Rat) : MV := .tup [.int q.num, .int q.den]
def FS (n : Nat) (q : Rat) : Prop := Sm n q.num ∧ Sm n q.den
theorem FS.mono {n m : Nat} {q : Rat} (h : FS n q) (hm : n ≤ m) : FS m q := ⟨h.1.mono hm, h.2.mono hm⟩
theorem den_pos (q : Rat) : (0 : Int) < q.den := by have := q.den_pos; omega
theorem mk_frac (n : Int) (d : Nat) (hd : 0 < d) : (mkRat n d).num = n / ((Int.gcd n d : Nat) : Int) ∧ ((mkRat n d).den : Int) = (d : Int) / ((Int.gcd n d : Nat) : Int) := by
  have e : d.gcd n.natAbs = Int.gcd n d := by
    unfold Int.gcd
    rw [Nat.gcd_comm]
    rfl
  rw [Rat.num_mkRat, Rat.den_mkRat, if_neg (by omega), if_neg (by omega), e]
  exact ⟨rfl, by rw [Int.natCast_ediv]⟩
theorem fs_mk {n : Nat} {t : Int} {d : Nat} (hd : 0 < d) (h1 : Sm n t) (h2 : Sm n d) : FS n (mkRat t d) := by
  have g : 0 < Int.gcd t d := Int.gcd_pos_of_ne_zero_right _ (by omega)
  obtain ⟨e1, e2⟩ := mk_frac t d hd
  unfold FS Sm at *
  rw [e2, e1]
  refine ⟨Nat.lt_of_le_of_lt ?_ h1, Nat.lt_of_le_of_lt ?_ h2⟩
  · exact Int.natAbs_ediv_le_natAbs _ _
  · exact Int.natAbs_ediv_le_natAbs _ _
theorem fs_add {n m : Nat} {q r : Rat} (h : FS n q) (k : FS m r) : FS (n + m + 1) (q + r) := by
  rw [Rat.add_def']
  refine fs_mk (Nat.mul_pos q.den_pos r.den_pos) ?_ ?_
  · exact (h.1.mul k.2).add (by rw [Nat.add_comm]; exact k.1.mul h.2)
  · have := h.2.mul k.2
    refine Sm.mono (n := n + m) ?_ (by omega)
    rw [Int.natCast_mul]
    exact this
theorem int_mul_rat (i : Int) (q : Rat) : (i : Rat) * q = mkRat (i * q.num) q.den := by
  rw [Rat.mul_def']
  simp
theorem fs_imul {n m : Nat} {i : Int} {q : Rat} (h : Sm n i) (k : FS m q) : FS (n + m) ((i : Rat) * q) := by
  rw [int_mul_rat]
  exact fs_mk q.den_pos (h.mul k.1) (k.2.mono (by omega))
theorem fs_int {n : Nat} {i : Int} (h : Sm n i) (hn : 1 ≤ n) : FS n (i : Rat) := ⟨h, by
  show Nat.lt _ _
  have : (2 : Nat) ^ 1 ≤ 2 ^ n := Nat.pow_le_pow_right (by decide) hn
  simp
  omega⟩
theorem frac_int (i : Int) : fracV (i : Rat) = .tup [.int i, .int 1] := rfl
theorem plain_frac {n : Nat} {q : Rat} : plain (n + 1) (fracV q) = true := by simp [fracV]
theorem noBl_frac {q : Rat} : noBl (fracV q) = true := rfl
theorem low_frac {n : Nat} {q : Rat} : lowV n (fracV q) = true := rfl
theorem frac_inj {q r : Rat} (h : fracV q = fracV r) : q = r := by
  unfold fracV at h
  simp at h
  exact Rat.ext h.1 (by have := h.2; omega)
theorem gcd_step {a b n : Nat} (h : b ≤ a) (hb : 0 < b) (hn : a * b < 2 ^ (n + 1)) : b * (a % b) < 2 ^ n := by
  have h1 : a % b < b := Nat.mod_lt _ hb
  have h2 : a % b + b ≤ a := by
    have := Nat.div_add_mod a b
    have q : 1 ≤ a / b := (Nat.le_div_iff_mul_le hb).mpr (by omega)
    have : b * 1 ≤ b * (a / b) := Nat.mul_le_mul_left b q
    omega
  have h3 : 2 * (b * (a % b)) ≤ b * a := by
    rw [Nat.mul_left_comm]
    refine Nat.mul_le_mul_left b ?_
    omega
  rw [Nat.pow_succ] at hn
  rw [Nat.mul_comm] at hn
  omega
end CS
namespace CS
open PySem L2
def addAt (fs : List Int) (p : Nat) (c : Int) : List Int := fs.set p (fs.getD p 0 + c)
def formL (parts : List (Nat × Int)) : List Int := parts.foldl (fun fs q => addAt fs q.1 q.2) (List.replicate 10 0)
@[simp] theorem addAt_len {fs : List Int} {p : Nat} {c : Int} : (addAt fs p c).length = fs.length := by unfold addAt; simp
theorem foldl_len (parts : List (Nat × Int)) : ∀ fs : List Int, (parts.foldl (fun fs q => addAt fs q.1 q.2) fs).length = fs.length := by
  induction parts with
  | nil => intro fs; rfl
  | cons q qs ih => intro fs; rw [List.foldl_cons, ih, addAt_len]
@[simp] theorem formL_len {parts : List (Nat × Int)} : (formL parts).length = 10 := by unfold formL; rw [foldl_len]; simp
theorem formL_take {parts : List (Nat × Int)} {i : Nat} (h : i < parts.length) : formL (parts.take (i + 1)) = addAt (formL (parts.take i)) parts[i].1 parts[i].2 := by
  unfold formL
  rw [List.take_succ_eq_append_getElem h, List.foldl_append]
  rfl
def dotQ : List Int → List Rat → Rat
  | f :: fs, s :: ss => (f : Rat) * s + dotQ fs ss
  | _, _ => 0
theorem int_add (a b : Int) : ((a + b : Int) : Rat) = (a : Rat) + b := Rat.intCast_add a b
theorem dot_add : ∀ (fs : List Int) (ss : List Rat) (p : Nat) (c : Int), fs.length = ss.length → p < fs.length → dotQ (addAt fs p c) ss = dotQ fs ss + (c : Rat) * ss.getD p 0
  | [], _, p, c, _, h => by simp at h
  | f :: fs, [], p, c, h, _ => by simp at h
  | f :: fs, s :: ss, 0, c, h, _ => by
    show ((f + c : Int) : Rat) * s + dotQ fs ss = (f : Rat) * s + dotQ fs ss + (c : Rat) * s
    rw [int_add]
    grind
  | f :: fs, s :: ss, p + 1, c, h, hp => by
    have e := dot_add fs ss p c (by simpa using h) (by simpa using hp)
    show (f : Rat) * s + dotQ (addAt fs p c) ss = (f : Rat) * s + dotQ fs ss + (c : Rat) * ss.getD p 0
    rw [e]
    grind
theorem dot_zero : ∀ (n : Nat) (ss : List Rat), dotQ (List.replicate n 0) ss = 0
  | 0, ss => by cases ss <;> rfl
  | n + 1, [] => rfl
  | n + 1, s :: ss => by
    show ((0 : Int) : Rat) * s + dotQ (List.replicate n 0) ss = 0
    rw [dot_zero n ss]
    grind
def partsQ (parts : List (Nat × Int)) (ss : List Rat) : Rat := (parts.map fun q => (q.2 : Rat) * ss.getD q.1 0).sum
theorem dot_fold (ss : List Rat) : ∀ (parts : List (Nat × Int)) (fs : List Int), fs.length = ss.length → (∀ q ∈ parts, q.1 < fs.length) → dotQ (parts.foldl (fun fs q => addAt fs q.1 q.2) fs) ss = dotQ fs ss + partsQ parts ss
  | [], fs, h, _ => by unfold partsQ; simp; grind
  | q :: qs, fs, h, hp => by
    rw [List.foldl_cons, dot_fold ss qs _ (by simpa using h) (fun x hx => by rw [addAt_len]; exact hp x (List.mem_cons_of_mem _ hx)), dot_add fs ss q.1 q.2 h (hp q List.mem_cons_self)]
    unfold partsQ
    rw [List.map_cons, List.sum_cons]
    grind
theorem dot_form {parts : List (Nat × Int)} {ss : List Rat} (h : ss.length = 10) (hp : ∀ q ∈ parts, q.1 < 10) : dotQ (formL parts) ss = partsQ parts ss := by
  unfold formL
  rw [dot_fold ss parts _ (by simp [h]) (by simpa using hp), dot_zero]
  grind
theorem dot_take {fs : List Int} {ss : List Rat} : ∀ {i : Nat} (h : i < fs.length) (h' : i < ss.length), dotQ (fs.take (i + 1)) ss = dotQ (fs.take i) ss + (fs[i] : Rat) * ss[i] := by
  induction fs generalizing ss with
  | nil => intro i h; simp at h
  | cons f fs ih =>
    intro i h h'
    cases ss with
    | nil => simp at h'
    | cons s ss =>
      cases i with
      | zero =>
        show (f : Rat) * s + dotQ (fs.take 0) ss = dotQ [] (s :: ss) + (f : Rat) * s
        have : dotQ (fs.take 0) ss = 0 := by cases ss <;> rfl
        rw [this]
        show _ = (0 : Rat) + _
        grind
      | succ i =>
        have hi : i < fs.length := by simpa using h
        have hi' : i < ss.length := by simpa using h'
        show (f : Rat) * s + dotQ (fs.take (i + 1)) ss = (f : Rat) * s + dotQ (fs.take i) ss + (fs[i] : Rat) * ss[i]
        rw [ih hi hi']
        grind
theorem addAt_sm {n : Nat} {fs : List Int} {p : Nat} {c : Int} {m : Nat} (h : ∀ f ∈ fs, f.natAbs ≤ m) (hc : c.natAbs ≤ n) : ∀ f ∈ addAt fs p c, f.natAbs ≤ m + n := by
  intro f hf
  unfold addAt at hf
  rcases List.mem_or_eq_of_mem_set hf with q | q
  · exact Nat.le_trans (h f q) (by omega)
  · have : (fs.getD p 0).natAbs ≤ m := by
      by_cases z : p < fs.length
      · have e : fs.getD p 0 = fs[p] := by simp [List.getD, z]
        rw [e]; exact h _ (List.getElem_mem z)
      · have e : fs.getD p 0 = 0 := by simp [List.getD, z]
        rw [e]; simp
    rw [q]
    have := Int.natAbs_add_le (fs.getD p 0) c
    omega
theorem fold_sm {n : Nat} : ∀ (parts : List (Nat × Int)) (fs : List Int) (m : Nat), (∀ f ∈ fs, f.natAbs ≤ m) → (∀ q ∈ parts, q.2.natAbs ≤ n) → ∀ f ∈ parts.foldl (fun fs q => addAt fs q.1 q.2) fs, f.natAbs ≤ m + parts.length * n
  | [], fs, m, h, _ => by simpa using h
  | q :: qs, fs, m, h, hp => by
    rw [List.foldl_cons]
    intro f hf
    have := fold_sm qs _ (m + n) (addAt_sm h (hp q List.mem_cons_self)) (fun x hx => hp x (List.mem_cons_of_mem _ hx)) f hf
    rw [List.length_cons, Nat.add_mul, Nat.one_mul]
    omega
theorem formL_sm {n : Nat} {parts : List (Nat × Int)} (hp : ∀ q ∈ parts, q.2.natAbs ≤ n) : ∀ f ∈ formL parts, f.natAbs ≤ parts.length * n := by
  intro f hf
  have := fold_sm (n := n) parts (List.replicate 10 0) 0 (by intro f hf; rw [List.eq_of_mem_replicate hf]; simp) hp f hf
  omega
abbrev TbQ := List (List Rat)
structure TbOk (b : Nat) (tb : TbQ) : Prop where
  len : tb.length = 4
  row : ∀ (i : Nat) (r : List Rat), tb[i]? = some r → r.length = i + 1 ∧ r.sum = 1 ∧ (∀ q ∈ r, FS b q) ∧ r.Pairwise (fun x y => ¬ x < y) ∧ (∀ q ∈ r, 0 ≤ q.num)
def shareQ (tb : TbQ) (n i : Nat) : Rat := (tb.getD (n - 1) []).getD i 0
theorem TbOk.shape {b : Nat} {tb : TbQ} (h : TbOk b tb) : ∃ a1 b1 b2 c1 c2 c3 d1 d2 d3 d4, tb = [[a1], [b1, b2], [c1, c2, c3], [d1, d2, d3, d4]] := by
  obtain ⟨l, r⟩ := h
  match tb, l with
  | [w, x, y, z], _ =>
    have h0 := (r 0 w rfl).1
    have h1 := (r 1 x rfl).1
    have h2 := (r 2 y rfl).1
    have h3 := (r 3 z rfl).1
    match w, x, y, z, h0, h1, h2, h3 with
    | [a1], [b1, b2], [c1, c2, c3], [d1, d2, d3, d4], _, _, _, _ => exact ⟨a1, b1, b2, c1, c2, c3, d1, d2, d3, d4, rfl⟩
theorem TbOk.flat_len {b : Nat} {tb : TbQ} (h : TbOk b tb) : tb.flatten.length = 10 := by
  obtain ⟨a1, b1, b2, c1, c2, c3, d1, d2, d3, d4, rfl⟩ := h.shape
  rfl
theorem TbOk.at_place {b : Nat} {tb : TbQ} (h : TbOk b tb) {n i : Nat} (h1 : 1 ≤ n) (h4 : n ≤ 4) (hi : i < n) : tb.flatten.getD (n * (n - 1) / 2 + i) 0 = shareQ tb n i := by
  obtain ⟨a1, b1, b2, c1, c2, c3, d1, d2, d3, d4, rfl⟩ := h.shape
  have : n = 1 ∨ n = 2 ∨ n = 3 ∨ n = 4 := by omega
  rcases this with rfl | rfl | rfl | rfl
  · obtain rfl : i = 0 := by omega
    rfl
  · have : i = 0 ∨ i = 1 := by omega
    rcases this with rfl | rfl <;> rfl
  · have : i = 0 ∨ i = 1 ∨ i = 2 := by omega
    rcases this with rfl | rfl | rfl <;> rfl
  · have : i = 0 ∨ i = 1 ∨ i = 2 ∨ i = 3 := by omega
    rcases this with rfl | rfl | rfl | rfl <;> rfl
theorem TbOk.flat_fs {b : Nat} {tb : TbQ} (h : TbOk b tb) : ∀ q ∈ tb.flatten, FS b q := by
  intro q hq
  obtain ⟨r, hr, hq⟩ := List.mem_flatten.mp hq
  obtain ⟨i, hi⟩ := List.mem_iff_getElem?.mp hr
  exact (h.row i r hi).2.2.1 q hq
def rowV (r : List Rat) : MV := .tup (r.map fracV)
def tableV (tb : TbQ) : MV := .tup (tb.map rowV)
def formV (n : Int) (fs : List Int) : MV := .tup [.int n, .tup (fs.map .int)]
def partV (q : Nat × Int) : MV := .tup [.int q.1, .int q.2]
theorem low_row {n : Nat} (r : List Rat) : lowV n (rowV r) = true := by unfold rowV lowV; exact low_map (fun _ => rfl) r
theorem low_table {n : Nat} (tb : TbQ) : lowV n (tableV tb) = true := by unfold tableV lowV; exact low_map (fun r => low_row r) tb
theorem s_agA {fo fi fe : DE} {ρ : MEnv} {st : Sto} {j p : Nat} {c : Int} {fs : List Int} {PS : Fl → MEnv → Sto → Prop} (ho : fo ρ st = ret (.ref j) st) (hi : fi ρ st = ret (.int p) st) (he : fe ρ st = ret (.int c) st) (hj : st[j]? = some (.lst (fs.map .int))) (hp : p < fs.length) :
    WpS (sAgS fo fi fe addI ρ st) PS = PS .nx ρ (st.set j (.lst ((addAt fs p c).map .int))) := by
  have hat : atI (fs.map MV.int) (p : Int) = some (.int (fs.getD p 0)) := at_nat (by simp [List.getD, hp])
  have hL : listOf st j = some (fs.map MV.int) := by unfold listOf; rw [hj]
  have e2 : ixN (fs.map MV.int).length (p : Int) = some p := by
    rw [List.length_map]
    unfold ixN
    rw [if_pos (by omega), if_pos (by omega)]
    simp
  have e3 : setM (.ref j) (.int p) (.int (fs.getD p 0 + c)) st = some (st.set j (.lst ((addAt fs p c).map .int))) := by
    unfold setM
    simp only [hj, e2, Option.map_some]
    unfold addAt
    rw [List.map_set]
  unfold ret at ho hi he
  simp only [sAgS, sb, ho, hi, hL, hat, he, addI, ret, e3, wps_some]
theorem ite_of {c : Prop} {i : Decidable c} {a b : Prop} (h : c) (k : a) : @ite Prop c i a b := by rw [if_pos h]; exact k
theorem all_trues {α : Type} (l : List α) (st : Sto) : allL (l.map fun _ => MV.bl true) st = ret (.bl true) st := by
  have : (l.map fun _ => MV.bl true) = (List.replicate l.length true).map .bl := by rw [List.map_replicate]; exact List.map_const' ..
  rw [this, allL_map]
  simp
theorem at_last {xs : List MV} {n : Nat} {v : MV} (hl : xs.length = n + 1) (h : xs[n]? = some v) : atI xs (-1) = some v := by
  have e1 : ((-1 : Int) + ((n + 1 : Nat) : Int)).toNat = n := by omega
  have e : ixN xs.length (-1) = some n := by
    unfold ixN
    rw [hl, if_neg (by omega), if_pos (by omega), e1]
  unfold atI
  rw [e]
  exact h
theorem repr_tup {t : Tb} {st : Sto} {xs : List MV} {n : Nat} (hx : plains n xs = true) (hs : showMs xs = true) (hn : n ≤ 25) (hw : wtMs xs ≤ 8000) :
    reprI t [.tup xs] st = ret (.str (PyData.shown (.tuple (datMs xs)))) st := by
  show (match ownG t (.tup xs) st with
    | some g => bndP (g [.tup xs] st) asStr fun n st1 => ret (.str n) st1
    | none => (match reprD (.tup xs) st with | some z => ret (MV.str z) st | none => none)) = _
  rw [own_tup]
  have e : reprD (.tup xs) st = some (PyData.shown (.tuple (datMs xs))) := by
    show (match dataM st 60 (.tup xs) with | some d => shownD d | none => (match dataD st 60 (.tup xs) with | some d => shownE d | none => none)) = _
    rw [plain_data (n := n + 1) (m := 60) (by rw [plain_tup]; exact hx) (by omega)]
    have s := plains_show hx hs
    show shownD (.tuple (datMs xs)) = _
    unfold shownD
    have c1 : PyData.showable (.tuple (datMs xs)) = true := s.1
    have c2 : PyData.hasDict (.tuple (datMs xs)) = false := plains_nodict xs
    have c3 : PyData.depth (.tuple (datMs xs)) ≤ 60 := by
      show PyData.depthAll (datMs xs) + 1 ≤ 60
      have := plains_depth hx
      omega
    have c4 : (PyData.shown (.tuple (datMs xs))).length ≤ sizeLine := fits_of s.2 hw
    simp only [c1, c2, c3, c4, Bool.not_false, Bool.and_self, decide_true, if_true]
  simp only [e]
theorem mk_add {a b : Int} {s : Nat} (hs : 0 < s) : mkRat a s + mkRat b s = mkRat (a + b) s := by
  rw [Rat.mkRat_add_mkRat a b (by omega) (by omega), ← Int.add_mul]
  exact Rat.mkRat_mul_right (by omega)
theorem mk_sum {s : Nat} (hs : 0 < s) : ∀ L : List Int, (L.map fun p => mkRat p s).sum = mkRat L.sum s
  | [] => by simp
  | p :: L => by rw [List.map_cons, List.sum_cons, List.sum_cons, mk_sum hs L, mk_add hs]
theorem mk_self {s : Nat} (hs : 0 < s) : mkRat (s : Int) s = 1 := by
  have := Rat.mkRat_mul_right (n := 1) (d := 1) (a := s) (by omega)
  have e : mkRat 1 1 = 1 := by decide
  rw [e, Int.one_mul, Nat.one_mul] at this
  exact this
theorem mk_le {a b : Int} {s : Nat} (hs : 0 < s) (h : a ≤ b) : ¬ mkRat b s < mkRat a s := by
  rw [Rat.not_lt, Rat.le_iff_sub_nonneg]
  have e : mkRat b s - mkRat a s = mkRat (b - a) s := by
    rw [Rat.sub_eq_add_neg, Rat.neg_mkRat, mk_add hs]
    rfl
  rw [e, ← Rat.divInt_ofNat]
  exact Rat.divInt_nonneg (by omega) (by omega)
theorem mk_num {a : Int} {s : Nat} (hs : 0 < s) (h : 0 ≤ a) : 0 ≤ (mkRat a s).num := by
  rw [Rat.num_nonneg, ← Rat.divInt_ofNat]
  exact Rat.divInt_nonneg h (by omega)
theorem row_of {L : List Int} {n s : Nat} (hl : L.length = n) (h0 : ∀ p ∈ L, 0 ≤ p ∧ p < 2 ^ 9) (hs : L.sum = s) (hs0 : 0 < s) (hs9 : s < 2 ^ 10) (hd : L.Pairwise (· ≥ ·)) :
    (L.map fun p => mkRat p s).length = n ∧ (L.map fun p => mkRat p s).sum = 1 ∧ (∀ q ∈ L.map (fun p => mkRat p s), FS 10 q) ∧ (L.map fun p => mkRat p s).Pairwise (fun x y => ¬ x < y) ∧ (∀ q ∈ L.map (fun p => mkRat p s), 0 ≤ q.num) := by
  refine ⟨by simp [hl], by rw [mk_sum hs0, hs, mk_self hs0], fun q hq => ?_, ?_, fun q hq => ?_⟩
  · obtain ⟨p, hp, rfl⟩ := List.mem_map.mp hq
    have := h0 p hp
    refine fs_mk hs0 ?_ ?_
    · unfold Sm; omega
    · unfold Sm; omega
  · rw [List.pairwise_map]
    exact hd.imp fun z => mk_le hs0 z
  · obtain ⟨p, hp, rfl⟩ := List.mem_map.mp hq
    exact mk_num hs0 (h0 p hp).1
theorem sm_pow {n m : Nat} {i : Int} (h : i.natAbs ≤ m) (hm : m < 2 ^ n) : Sm n i := Nat.lt_of_le_of_lt h hm
end CS
namespace CS
open PySem PySem.Spec PyProof.Rows L2
def strsM : List MV → Option (List Str)
  | [] => some []
  | .str x :: r => (strsM r).map (x :: ·)
  | _ :: _ => none
theorem strs_rvs {c : GC} {m : List Addr} {H : Hp} : ∀ {xs : List MV} {vs : List V} {ys : List Str}, RVs c m H xs vs → strsM xs = some ys → vs = ys.map V.str
  | _, _, ys, .nil, h => by cases h; rfl
  | x :: xs, v :: vs, ys, .cons h1 r, h => by
    cases x with
    | str i =>
      have h : (strsM xs).map (i :: ·) = some ys := h
      cases q : strsM xs with
      | none => rw [q] at h; cases h
      | some zs =>
        rw [q] at h
        cases h
        cases h1
        rw [strs_rvs r q]
        rfl
    | _ => cases h
def joinL (a : Str) (xs : List MV) (st : Sto) : R MV := match strsM xs with
  | some ys => if (ys.map (·.length)).sum + ys.length * a.length ≤ 16777216 then ret (.str (Txt.join a ys)) st else none
  | none => none
def eJoi (fo fe : DE) : DE := fun ρ st => bnd (fo ρ st) fun x st1 => match x with
  | .str a => bnd (fe ρ st1) fun y st2 => (match seqM y st2 with | some xs => joinL a xs st2 | none => none)
  | _ => none
section
variable {A : AD} {X : Cx} {W : WX}
theorem pm_joi {o e : Expr} {fo fe : DE} {apos cpos : Pos} (ho : PM A X W o fo) (he : PM A X W e fe) (hs : starEach [e] X.env = [(false, eval e X.env)]) (hbase : attributeBase o "join" X.env (eval o X.env) = eval o X.env) (hline : (apos.endLine == cpos.line) = true) :
    PM A X W (.Call (.Attribute o "join" apos) [e] [] cpos) (eJoi fo fe) := by
  refine (pe_join ho he hs hbase hline).imp fun σ H Q ⟨m, ρ, st, r, v, k⟩ => ?_
  refine tM.thenG r v k fun x u st1 m1 H1 r1 e1 v1 hu k1 => ?_
  cases x with
  | str a =>
    cases hu
    refine ⟨⟨a, rfl⟩, ?_⟩
    refine tM.thenG r1 v1 k1 fun y w st2 m2 H2 r2 e2 v2 hw k2 => ?_
    cases q : seqM y st2 with
    | none => rw [q] at k2; exact k2.elim
    | some xs =>
      rw [q] at k2
      unfold joinL at k2
      cases q2 : strsM xs with
      | none => simp only [q2] at k2; exact k2.elim
      | some ys =>
        simp only [q2] at k2
        split at k2
        · rename_i hl
          obtain ⟨p, vs, rfl, hvs, hsq⟩ := seqM_ok r2 hw q
          have ev := strs_rvs hvs q2
          subst ev
          refine ⟨a, p, ys, rfl, rfl, ?_, hl, Run.ok k2 .refl r2 _ (.str _)⟩
          rcases hsq with ⟨h1, _⟩ | ⟨h1, _⟩
          · exact .inl h1
          · exact .inr h1.toT
        · exact k2.elim
  | _ => exact k1.elim
end
@[simp] theorem e_joi {ρ : MEnv} {st : Sto} {P : MV → Sto → Prop} {X : MX → Sto → Prop} {fo fe : DE} : Wp (eJoi fo fe ρ st) P X = Wp (fo ρ st) (fun x st1 => Wp (match x with
  | .str a => bnd (fe ρ st1) fun y st2 => (match seqM y st2 with | some xs => joinL a xs st2 | none => none)
  | _ => none) P X) X := by unfold eJoi; simp only [wp_bnd] <;> rfl
@[simp] theorem strsM_map {ys : List Str} : strsM (ys.map .str) = some ys := by
  induction ys with
  | nil => rfl
  | cons b bs ih => show (strsM (bs.map .str)).map _ = _; rw [ih]; rfl
theorem m_joinL {a : Str} {ys : List Str} {st : Sto} (h : (ys.map (·.length)).sum + ys.length * a.length ≤ 16777216) : joinL a (ys.map .str) st = ret (.str (Txt.join a ys)) st := by
  unfold joinL
  simp only [strsM_map]
  exact if_pos h
end CS
namespace CS
open PySem PySem.Spec PyProof.Rows L2
structure Seen (X : Cx) (pk : List (Addr × Obj)) (a : Addr) (cls : Value) (d : Option Addr) (σ : L2.St) (H : Hp) (B : Heap) (si s' : Shared) (h : Heap) : Prop where
  inv : Inv X pk σ H si
  nb : ∀ b o, si.heap.get? b = some o → b ∉ frs X.stack → B.get? b = some o
  ups : si.heap.UpToSlots h
  fly : HandSPX.FlyingZ B (X.env :: X.outer) a (L2N.Zn cls d) h
  na : H a = none
  oss : s'.os = si.os
  bare : AllBare s'.gens
section
variable {X : Cx} {pk : List (Addr × Obj)} {a : Addr} {cls : Value} {d : Option Addr} {σ : L2.St} {H : Hp} {B : Heap} {si s' : Shared} {h : Heap} {D : Ends} {Wout : WX}
theorem Seen.here (z : Seen X pk a cls d σ H B si s' h) : Inv X pk σ H { s' with heap := h } := Inv.landed (s' := { s' with heap := h }) z.inv z.nb z.fly.1 z.ups z.oss z.bare
theorem Seen.inner (z : Seen X pk a cls d σ H B si s' h) (hfl : X.env.frame = some X.env.locals) : ∃ oe vs, h.get? a = some oe ∧ L2N.Zn cls d oe ∧ oe.data = .fields vs ∧ Inv (X.suite a ((a, oe) :: (X.pn ++ pk))) [] σ H { s' with heap := h } := by
  obtain ⟨oe, vs, e, q, dd⟩ := z.fly.there
  have out : a ∉ frs (X.env :: X.outer) := by
    intro hm
    obtain ⟨_, _, e2, nf⟩ := z.fly.2.2.1.mem hm
    rw [e] at e2
    cases e2
    exact nf vs dd
  refine ⟨oe, vs, e, q, dd, z.here.suite (s := { s' with heap := h }) e dd z.na ?_ ?_⟩
  · rintro rfl
    exact out (List.mem_filterMap.mpr ⟨X.env, List.mem_cons_self, hfl⟩)
  · intro hm
    obtain ⟨en, m1, m2⟩ := List.mem_filterMap.mp hm
    exact out (List.mem_filterMap.mpr ⟨en, List.mem_cons_of_mem _ m1, m2⟩)
theorem Seen.on (z : Seen X pk a cls d σ H B si s' h) (hst : X.stack = X.env :: X.outer) (hfl : X.env.frame = some X.env.locals) (tk : L2N.Takes X Wout) (w : Wout cls d σ H) :
    wpAny (model X.prog X.w) X.A (handleBy (.ref a) X.env []) (SP X pk D) X.xe { s' with heap := h } := by
  have up : wpAny (model X.prog X.w) X.A (setFlight (.ref a) X.env.frame) (fun _ s4 => wpAny (model X.prog X.w) X.A (throw (.ref a) : Sem Flow) (SP X pk D) X.xe s4) X.xe { s' with heap := h } := by
    rw [hfl]
    refine HandSPX.setFlight_upZ (s := { s' with heap := h }) z.fly fun h4 held u4 => wpAny_throw (tk _ _ ⟨a, B, si, pk, σ, H, cls, d, rfl, z.inv, z.nb, z.ups.trans u4, .inr (.inr ?_), z.na, z.oss, z.bare, w⟩)
    rw [hst]
    exact held
  obtain ⟨_, _, _, _, _, T, _, _, e, _, dd, tb, _⟩ := id z.fly
  refine wpAny_handleBy_nil ?_
  unfold PySem.passOn
  refine wpAny_bind (wpAny_field (s := { s' with heap := h }) e dd tb ?_)
  have nn : ¬ ((Value.ref T == Value.none) = true) := by simp
  rw [if_neg nn]
  first
    | exact wpAny_bind (wpAny_pure (wpAny_bind up))
    | exact wpAny_bind up
theorem Seen.name (z : Seen X pk a cls d σ H B si s' h) (hfl : X.env.frame = some X.env.locals) {x : Str} {c : Value} {np : Pos} (hc : Names X x c) {Q : Value → Shared → Prop} {E : Value → Shared → Prop} (q : Q c { s' with heap := h }) :
    wpAny (model X.prog X.w) (X.A.mark (some (.ref a))) (eval (.Name x np) X.env) Q E { s' with heap := h } := by
  obtain ⟨oe, vs, _, _, _, I⟩ := z.inner hfl
  obtain ⟨g, db, m | ⟨m, bt, nn⟩⟩ := hc
  · exact ld_glob (X := X.suite a ((a, oe) :: (X.pn ++ pk))) I g m q db
  · exact ld_blt (X := X.suite a ((a, oe) :: (X.pn ++ pk))) I g m bt q nn db
end
def asE (i : Nat) (D : Ends) : Ends := { nx := fun σ H => D.nx (σ.set i none) H, rt := D.rt, bk := fun σ H => D.bk (σ.set i none) H, ct := fun σ H => D.ct (σ.set i none) H }
inductive ClX (X : Cx) : List ExceptHandler → List (Value × (Addr → Value → Option Addr → TS)) → Prop
  | nil : ClX X [] []
  | cons {x : Str} {nm : Option Str} {c : Value} {ts : Addr → Value → Option Addr → TS} {b : Stmt} {suite : List Stmt} {np p : Pos} {hds : List ExceptHandler} {l : List (Value × (Addr → Value → Option Addr → TS))} (hc : Names X x c)
      (walk : nm = none → ∀ (a : Addr) (oe : Obj) (cls : Value) (d : Option Addr) (pn : List (Addr × Obj)), L2N.Zn cls d oe → (∃ vs, oe.data = .fields vs) → PSs (X.suite a ((a, oe) :: pn)) (b :: suite) (ts a cls d))
      (never : nm ≠ none → ∀ a cls d D σ H, ¬ ts a cls d D σ H) (r : ClX X hds l) :
      ClX X (.ExceptHandler (some (.Name x np)) nm (b :: suite) p :: hds) ((c, ts) :: l)
  | named {x n : Str} {c : Value} {ts : Addr → Value → Option Addr → TS} {b : Stmt} {suite : List Stmt} {np p : Pos} {hds : List ExceptHandler} {l : List (Value × (Addr → Value → Option Addr → TS))} {i : Nat} (hc : Names X x c)
      (hN : X.N.Nodup) (hi : X.N[i]? = some n) (hln : X.env.kindOf n = some .local)
      (walk : ∀ (a : Addr) (oe : Obj) (cls : Value) (d : Option Addr) (pn : List (Addr × Obj)), L2N.Zn cls d oe → (∃ vs, oe.data = .fields vs) → PSs (X.suite a ((a, oe) :: pn)) (b :: suite) (ts a cls d)) (r : ClX X hds l) :
      ClX X (.ExceptHandler (some (.Name x np)) (some n) (b :: suite) p :: hds) ((c, fun a cls d D σ H => ts a cls d (asE i D) (σ.set i (some (.ref a))) H) :: l)
theorem clauses_go {X : Cx} {pk : List (Addr × Obj)} {a : Addr} {cls : Value} {d : Option Addr} {σ : L2.St} {H : Hp} {B : Heap} {si s' : Shared} {h : Heap} {D : Ends} {Wout : WX} (z : Seen X pk a cls d σ H B si s' h)
    (hst : X.stack = X.env :: X.outer) (hfl : X.env.frame = some X.env.locals) (tk : L2N.Takes X Wout) {hds : List ExceptHandler} {l : List (Value × (Addr → Value → Option Addr → TS))} (hx : ClX X hds l) :
    wMany X.K Wout D l cls d σ H → wpAny (model X.prog X.w) X.A (handleBy (.ref a) X.env hds) (SP X pk D) X.xe { s' with heap := h } := by
  induction hx with
  | nil => exact fun w => z.on hst hfl tk w
  | @cons x nm c ts b suite np p hds l hc walk never r IH =>
    rintro ⟨v, hv, yes, no⟩
    refine wpAny_handleBy_cons (codeAny_handlers_test ?_) (by intro q; cases q)
    obtain ⟨oe, vs, eo, zo, dd⟩ := z.fly.there
    have look : PySem.W.Looks (model X.prog X.w) h (typeOf (.ref a)) cls := fun A Q E s k q => wpAny_typeOf_ref (k _ _ eo) (by rw [zo.1]; exact q)
    have lm := PySem.W.exm_one (M := model X.prog X.w) (z.here.kIn) look hv
    refine z.name hfl hc (lm.here ?_)
    cases v with
    | false => exact IH (no rfl)
    | true =>
      cases nm with
      | some n => exact absurd (yes rfl a z.na) (never (by simp) _ _ _ _ _ _)
      | none =>
        refine codeAny_handlers_suite (HandSPX.lands_againZ (s := { s' with heap := h }) z.fly fun h4 f4 u4 => ?_)
        have z4 : Seen X pk a cls d σ H B si s' h4 := ⟨z.inv, z.nb, z.ups.trans u4, f4, z.na, z.oss, z.bare⟩
        obtain ⟨o4, v4, _, zo4, d4, I4⟩ := z4.inner hfl
        refine wpAny_mono ((walk rfl a o4 cls d (X.pn ++ pk) zo4 ⟨_, d4⟩).run [] _ σ H D I4 (yes rfl a z.na)) (fun f t fin => ?_) (fun _ _ q => False.elim q)
        have okX := z.inv.ok
        cases f with
        | ret u =>
          obtain ⟨y, τ, G, J, rr, qq⟩ := fin
          exact ⟨y, τ, G, J.unsuite okX, rr, qq⟩
        | next =>
          obtain ⟨τ, G, J, qq⟩ := fin
          exact ⟨τ, G, J.unsuite okX, qq⟩
        | brk =>
          obtain ⟨τ, G, J, qq⟩ := fin
          exact ⟨τ, G, J.unsuite okX, qq⟩
        | cont =>
          obtain ⟨τ, G, J, qq⟩ := fin
          exact ⟨τ, G, J.unsuite okX, qq⟩
  | @named x n c ts b suite np p hds l i hc hN hi hln walk r IH =>
    rintro ⟨v, hv, yes, no⟩
    refine wpAny_handleBy_cons (codeAny_handlers_test ?_) (by intro q; cases q)
    obtain ⟨oe, vs, eo, zo, dd⟩ := z.fly.there
    have look : PySem.W.Looks (model X.prog X.w) h (typeOf (.ref a)) cls := fun A Q E s k q => wpAny_typeOf_ref (k _ _ eo) (by rw [zo.1]; exact q)
    have lm := PySem.W.exm_one (M := model X.prog X.w) (z.here.kIn) look hv
    refine z.name hfl hc (lm.here ?_)
    cases v with
    | false => exact IH (no rfl)
    | true =>
      refine codeAny_handlers_suite_as (HandSPX.lands_againZ (s := { s' with heap := h }) z.fly fun h4 f4 u4 => ?_)
      have z4 : Seen X pk a cls d σ H B si s' h4 := ⟨z.inv, z.nb, z.ups.trans u4, f4, z.na, z.oss, z.bare⟩
      obtain ⟨o4, v4, _, zo4, d4, I4⟩ := z4.inner hfl
      have okX := z.inv.ok
      refine store_ok (X := X.suite a ((a, o4) :: (X.pn ++ pk))) (v := .ref a) I4 hN hi (.inl hln) rfl (fun s5 I5 => ?_) (.inr hln)
      refine wpAny_mono ((walk a o4 cls d (X.pn ++ pk) zo4 ⟨_, d4⟩).run [] s5 _ H _ I5 (yes rfl a z.na)) (fun f t fin => ?_) (fun _ _ q => False.elim q)
      cases f with
      | ret u =>
        obtain ⟨y, τ, G, J, rr, qq⟩ := fin
        exact gone_ok (J.unsuite okX) hN hi hln fun s7 J7 => ⟨y, _, G, J7, rr, qq⟩
      | next =>
        obtain ⟨τ, G, J, qq⟩ := fin
        exact gone_ok (J.unsuite okX) hN hi hln fun s7 J7 => ⟨_, G, J7, qq⟩
      | brk =>
        obtain ⟨τ, G, J, qq⟩ := fin
        exact gone_ok (J.unsuite okX) hN hi hln fun s7 J7 => ⟨_, G, J7, qq⟩
      | cont =>
        obtain ⟨τ, G, J, qq⟩ := fin
        exact gone_ok (J.unsuite okX) hN hi hln fun s7 J7 => ⟨_, G, J7, qq⟩
theorem ps_try_mix {X : Cx} {body : List Stmt} {h0 : ExceptHandler} {hds : List ExceptHandler} {l : List (Value × (Addr → Value → Option Addr → TS))} {pos : Pos} {tb : WX → TS} {Wout : WX} (hst : X.stack = X.env :: X.outer) (hfl : X.env.frame = some X.env.locals) (tk : L2N.Takes X Wout)
    (hb : ∀ (V : WX) (pn : List (Addr × Obj)) (xe : Value → Shared → Prop), L2N.Takes (X.tr pn xe) V → PassesOwn (model X.prog X.w) X.A X.env xe → PSs (X.tr pn xe) body (tb V))
    (hh : ClX X (h0 :: hds) l) : PS X (.Try body (h0 :: hds) [] [] pos) (fun D σ H => tb (wMany X.K Wout D l) D σ H) := by
  refine ⟨fun pk s σ H D I hw => ?_⟩
  have okX := I.ok
  have frm : X.A.frames = some (X.env :: X.outer) := okX.frames.trans (by rw [hst])
  have bd := hb (wMany X.K Wout D l) (X.pn ++ pk) (fun e s1 => wpAny (model X.prog X.w) X.A (noteFrame e X.env) (fun _ s2 => wpAny (model X.prog X.w) X.A (setFlight e none) (fun _ s3 => wpAny (model X.prog X.w) X.A (handleBy e X.env (h0 :: hds)) (SP X pk D) X.xe s3) X.xe s2) X.xe s1) (by
    rintro u s' ⟨a, B, si, pk', σ', H', cls, d, rfl, J, nb, ups, sky, na, oss, bare, w⟩
    rw [show (X.tr (X.pn ++ pk) _).stack = X.env :: X.outer from hst] at sky
    exact L2N.Sky.land L2N.Zn.steady frm hfl sky fun h3 f3 u3 => clauses_go (s' := s') ⟨J.ofTry okX, nb, ups.trans u3, f3, na, oss, bare⟩ hst hfl tk hh w) PassesOwn.looking
  refine wpAny_Try_except (wpAny_mono (bd.run [] s σ H D (I.toTry _) hw) (fun f s1 fin => ?_) fun _ _ q => q)
  cases f with
  | ret u =>
    obtain ⟨y, τ, G, J, rr, qq⟩ := fin
    exact ⟨y, τ, G, J.ofTry okX, rr, qq⟩
  | next =>
    obtain ⟨τ, G, J, qq⟩ := fin
    exact wpAny_execs_nil ⟨τ, G, J.ofTry okX, qq⟩
  | brk =>
    obtain ⟨τ, G, J, qq⟩ := fin
    exact ⟨τ, G, J.ofTry okX, qq⟩
  | cont =>
    obtain ⟨τ, G, J, qq⟩ := fin
    exact ⟨τ, G, J.ofTry okX, qq⟩
end CS
namespace CS
open PySem PySem.Spec PyProof.Rows L2
section
variable {A : AD} {X : Cx} {W : WX}
theorem pmk_own0 {C : Addr} {bmB : List Value} {T nw nt : String} {x : Str} {p pos : Pos} (F : ExcBaseFacts T nw nt bmB) (q : PySem.W.excIn X.K C bmB nw = true) (gC : X.mg x = some (.ref C)) (kC : PySem.W.keepIn X.K (.ref C) = true)
    (r : Raises X (.ref C)) (hg : Gl X x) (hdb : (x == ("__debug__" : Str)) = false := by decide) : L2N.PMk X (.Call (.Name x p) [] [] pos) (fun _ H Q => Q (.ref C) none H) := by
  intro pk s σ H Q I h
  refine wpAny_Call_Name_kw (ld_glob I hg gC (PySem.W.callWith_K0 I.kIn kC ?_) hdb)
  obtain ⟨_, _, _, _, _, _, _, _, _, _, _, _, _, _, _, _, _, hC, hN, hni, tail⟩ := exc_obj I.kIn q
  exact wpAny_call_exc_subT F tail hC hN hni (fun h' e hm => L2N.mk_of I hm r h (I.hok.gone hm.new)) (Nat.zero_le _)
def sRs (k : Nat) : DS := fun ρ st => some (.exc (k, []), ρ, st)
theorem pms_rs0 {k : Nat} {C : Addr} {e : Expr} {pos : Pos} (hca : A.ca k = some C) (hc : X.calm = true) (tk : L2N.Takes X W) (mk : L2N.PMk X e (fun _ H Q => Q (.ref C) none H)) : PMS A X W (.Raise (some e) none pos) (sRs k) :=
  (L2N.ps_raise hc tk mk).imp fun D σ H ⟨m, ρ, st, r, v, h⟩ => h m H σ (.ref C) none .refl r v ⟨C, hca, rfl, .inl rfl⟩
def pickM (x : MX) (ρ : MEnv) (st : Sto) : List ((Nat → Option Bool) × DS) → SR
  | [] => some (.exc x, ρ, st)
  | (t, f) :: r => match t x.1 with
    | none => none
    | some true => (match f ρ st with
      | some (.exc _, _, _) => none
      | z => z)
    | some false => pickM x ρ st r
def sTry (fb : DS) (l : List ((Nat → Option Bool) × DS)) : DS := fun ρ st => match fb ρ st with
  | some (.exc x, ρ', st') => pickM x ρ' st' l
  | z => z
inductive ClM' (A : AD) (X : Cx) : List ExceptHandler → List ((Nat → Option Bool) × DS) → Prop
  | nil : ClM' A X [] []
  | cons {x : Str} {nm : Option Str} {c : Value} {t : Nat → Option Bool} {f : DS} {b : Stmt} {suite : List Stmt} {np p : Pos} {hds : List ExceptHandler} {l : List ((Nat → Option Bool) × DS)} (hc : Names X x c)
      (ht : ∀ k C v, A.ca k = some C → t k = some v → PySem.W.exmOne X.K (.ref C) c = some v)
      (walk : nm = none → ∀ (a : Addr) (oe : Obj) (pn : List (Addr × Obj)), PMSs A (X.suite a ((a, oe) :: pn)) W0 (b :: suite) f)
      (never : nm ≠ none → ∀ ρ st, f ρ st = none) (r : ClM' A X hds l) :
      ClM' A X (.ExceptHandler (some (.Name x np)) nm (b :: suite) p :: hds) ((t, f) :: l)
theorem SRun.from {c : GC} {W : WX} {D : Ends} {m m1 : List Addr} {H H1 : Hp} {r : SR} (h : SRun c W D m H r) (e : Ext c m H m1 H1) : SRun c W D m1 H1 r := by
  match r, h with
  | some (.nx, _, _), h => exact fun m' H' σ' e' => h m' H' σ' (e.trans e')
  | some (.rt _, _, _), h => exact fun m' H' u e' => h m' H' u (e.trans e')
  | some (.bk, _, _), h => exact fun m' H' σ' e' => h m' H' σ' (e.trans e')
  | some (.ct, _, _), h => exact fun m' H' σ' e' => h m' H' σ' (e.trans e')
  | some (.exc _, _, _), h => exact fun m' H' σ' cls d e' => h m' H' σ' cls d (e.trans e')
theorem SRun.calmW {c : GC} {W V : WX} {D : Ends} {m : List Addr} {H : Hp} {r : SR} (h : SRun c W D m H (match r with
    | some (.exc _, _, _) => none
    | z => z)) : SRun c V D m H r := by
  match r, h with
  | some (.nx, _, _), h => exact h
  | some (.rt _, _, _), h => exact h
  | some (.bk, _, _), h => exact h
  | some (.ct, _, _), h => exact h
theorem pms_try {body : List Stmt} {h0 : ExceptHandler} {hds : List ExceptHandler} {l : List ((Nat → Option Bool) × DS)} {fb : DS} {pos : Pos} (hst : X.stack = X.env :: X.outer) (hfl : X.env.frame = some X.env.locals) (tk : L2N.Takes X W)
    (hb : ∀ (V : WX) (pn : List (Addr × Obj)) (xe : Value → Shared → Prop), L2N.Takes (X.tr pn xe) V → PassesOwn (model X.prog X.w) X.A X.env xe → PMSs A (X.tr pn xe) V body fb)
    (hh : ClM' A X (h0 :: hds) l) : PMS A X W (.Try body (h0 :: hds) [] [] pos) (sTry fb l) := by
  have cl : ∀ {hs : List ExceptHandler} {l : List ((Nat → Option Bool) × DS)}, ClM' A X hs l → ∃ w, ClX X hs w ∧ ∀ (D : Ends) (x : MX) (ρ : MEnv) (st : Sto) (m : List Addr) (H : Hp) (σ : L2.St) (cls : Value) (d : Option Addr), Rel (gc A X) m st H → REnv (gc A X) m H ρ σ → RX (gc A X) m H x cls d →
      SRun (gc A X) W D m H (pickM x ρ st l) → wMany X.K W D w cls d σ H := by
    intro hs l h
    induction h with
    | nil => exact ⟨[], .nil, fun D x ρ st m H σ cls d r v rx h => h m H σ cls d .refl r v rx⟩
    | @cons x nm c t f b suite np p hds l hc ht walk never r IH =>
      obtain ⟨w, hw, go⟩ := IH
      refine ⟨(c, fun _ _ _ => tMS (gc A X) W0 f) :: w, .cons hc (fun e a oe cls d pn _ _ => walk e a oe pn) (fun e a cls d D σ H ⟨m, ρ, st, _, _, k⟩ => by rw [never e] at k; exact k) hw, ?_⟩
      intro D x ρ st m H σ cls d rr v rx h
      obtain ⟨C, hC, rfl, _⟩ := id rx
      unfold pickM at h
      cases q : t x.1 with
      | none => rw [q] at h; exact h.elim
      | some y =>
        rw [q] at h
        refine ⟨y, ht _ _ _ hC q, ?_, ?_⟩
        · rintro rfl a _
          exact ⟨m, ρ, st, rr, v, h.calmW⟩
        · rintro rfl
          exact go D x ρ st m H σ _ d rr v rx h
  obtain ⟨w, hw, go⟩ := cl hh
  refine (ps_try_mix hst hfl tk (tb := fun V => tMS (gc A X) V fb) (fun V pn xe t o => hb V pn xe t o) hw).imp fun D σ H ⟨m, ρ, st, r, v, k⟩ => ⟨m, ρ, st, r, v, ?_⟩
  unfold sTry at k
  match q : fb ρ st, k with
  | none, k => exact k
  | some (.nx, _, _), k => exact k
  | some (.rt _, _, _), k => exact k
  | some (.bk, _, _), k => exact k
  | some (.ct, _, _), k => exact k
  | some (.exc x, ρ', st'), k => exact fun m' H' σ' cls d e r' v' rx => go D x ρ' st' m' H' σ' cls d r' v' rx (SRun.from k e)
variable {D : List DefT} {p : Pl} {S : Nat → List MV → Sto → R MV} {ar : Nat → Nat} {l : Nat}
theorem Gd.tr (G : Gd A X W D p S ar l) (pn : List (Addr × Obj)) (xe : Value → Shared → Prop) {V : WX} (t : L2N.Takes (X.tr pn xe) V) : Gd A (X.tr pn xe) V D p S ar l :=
  ⟨G.fns, G.bnd, G.val, G.fat, G.fnv, G.room, G.gd, t, G.calm, G.un⟩
end
end CS
namespace CS
open PySem PySem.Spec PyProof.Rows L2
section
variable {A : AD} {X : Cx} {W : WX} {o : Expr} {fo : DE}
def ePop (fo : DE) : DE := fun ρ st => bnd (fo ρ st) fun x st1 => match x with
  | .ref j => (match st1[j]? with
    | some (.lst xs) => (match xs[xs.length - 1]? with
      | some y => ret y (st1.set j (.lst xs.dropLast))
      | none => none)
    | _ => none)
  | _ => none
theorem RVs.dropL {c : GC} {m : List Addr} {H : Hp} : ∀ {xs : List MV} {vs : List V}, RVs c m H xs vs → RVs c m H xs.dropLast vs.dropLast
  | _, _, .nil => .nil
  | _, _, .cons h .nil => .nil
  | _, _, .cons h (.cons h2 t) => .cons h (RVs.dropL (.cons h2 t))
theorem pm_pop {apos cpos : Pos} (ho : PM A X W o fo) (hbase : attributeBase o "pop" X.env (eval o X.env) = eval o X.env) (hline : (apos.endLine == cpos.line) = true) : PM A X W (.Call (.Attribute o "pop" apos) [] [] cpos) (ePop fo) := by
  refine (pe_bm0 PySem.F.plainAttrs_list PySem.F.slot_list_pop PySem.F.type_list_pop mt_pop ho hbase hline).imp fun σ H Q ⟨m, ρ, st, r, v, k⟩ => ?_
  refine tM.thenG r v k fun x u st1 m1 H1 r1 e1 v1 hu k1 => ?_
  cases x with
  | ref j =>
    dsimp only at k1
    cases q : st1[j]? with
    | none => simp only [q] at k1; exact k1.elim
    | some ob =>
      cases ob with
      | lst xs =>
        simp only [q] at k1
        cases q2 : xs[xs.length - 1]? with
        | none => simp only [q2] at k1; exact k1.elim
        | some y =>
          simp only [q2] at k1
          cases hu with
          | @ref _ a hj =>
          obtain ⟨us, g1, g2⟩ := r1.lst q hj
          obtain ⟨w, w1, w2⟩ := g2.get' q2
          obtain ⟨r3, e3⟩ := r1.setLst q hj (RVs.dropL g2)
          obtain ⟨vs, h1, _⟩ := r1.list (list_at q) hj
          refine ⟨.inl ⟨rfl, vs, h1⟩, a, us, w, rfl, rfl, g1, by rw [← g2.length]; exact w1, ?_⟩
          exact Run.ok k1 e3 r3 w (w2.mono e3)
      | _ => simp only [q] at k1; exact k1.elim
  | _ => exact k1.elim
structure ExT (A : AD) (K : PySem.W.Frag) (mg : Str → Option Value) (x : Str) (k : Nat) (C : Addr) (bm : List Value) (nw : String) : Prop where
  mg : mg x = some (.ref C)
  kp : PySem.W.keepIn K (.ref C) = true
  ca : A.ca k = some C
  ex : PySem.W.excIn K C bm nw = true
  sb : PySem.W.subIn K (.ref C) (.type "BaseException") = some true
  ty : PySem.W.typeIn K (.ref C) = some (.type "type")
theorem pms_rsT {x : Str} {k : Nat} {C : Addr} {bm : List Value} {T nw nt : String} {p pos pos' : Pos} (F : ExcBaseFacts T nw nt bm) (E : ExT A X.K X.mg x k C bm nw) (hc : X.calm = true) (tk : L2N.Takes X W) (hg : Gl X x) (hdb : (x == ("__debug__" : Str)) = false) : PMS A X W (.Raise (some (.Call (.Name x p) [] [] pos)) none pos') (sRs k) :=
  pms_rs0 E.ca hc tk (pmk_own0 F E.ex E.mg E.kp (raises_own E.sb E.ty) hg hdb)
end
variable {ρ : MEnv} {st : Sto} {PS : Fl → MEnv → Sto → Prop}
@[simp] theorem s_rs {k : Nat} : WpS (sRs k ρ st) PS = PS (.exc (k, [])) ρ st := id rfl
theorem s_try {fb : DS} {l : List ((Nat → Option Bool) × DS)} : WpS (sTry fb l ρ st) PS = WpS (fb ρ st) (fun fl ρ' st' => match fl with
    | .exc x => WpS (pickM x ρ' st' l) PS
    | fl => PS fl ρ' st') := by
  unfold sTry
  generalize fb ρ st = r
  match r with
  | none => rfl
  | some (.nx, _, _) => rfl
  | some (.rt _, _, _) => rfl
  | some (.bk, _, _) => rfl
  | some (.ct, _, _) => rfl
  | some (.exc _, _, _) => rfl
end CS
namespace PySem
namespace Er_valueX
open PySem.W PySem.Calls PyProof.Rows PySem.HandSPX
def iA (p1 p2 : Pos) : Arguments := { posonlyargs := [], args := [{ arg := "self", annotation := none, pos := p1 }, { arg := "value", annotation := none, pos := p2 }], vararg := none, kwonlyargs := [], kw_defaults := [], kwarg := none, defaults := [] }
def iB (q1 q2 q3 q4 : Pos) : List Stmt := [.Assign [.Attribute (.Name "self" q1) "value" q2] (.Name "value" q3) q4]
def iS : Scope := { kind := .function, names := [(PySem.Str.ofString "self", .local), (PySem.Str.ofString "value", .local)], isGenerator := false, isCoroutine := false, more := [] }
structure LowTxt (K : Frag) (mg : Str → Option Value) (x qn : Str) (C fI : Addr) : Prop where
  gC : mg x = some (.ref C)
  cls : ∃ nm q N bs bm sn sub ab col dd k0 k1 k2 k3 k5, K.lookup C = some (excClassObj nm q C N bs bm true sn sub ab col dd k0 k1 k2 k3 k5 "ValueError.__new__") ∧ refsVE bm = true
  sa : findIn K (.ref C) "__setattr__" = some (some (.builtin "object.__setattr__"))
  ga : findIn K (.ref C) "__getattribute__" = some (some (.builtin "BaseException.__getattribute__"))
  gg : findIn K (.ref C) "__getattr__" = some none
  noN : findIn K (.ref C) "value" = some none
  iC : findIn K (.ref C) "__init__" = some (some (.ref fI))
  tC : typeIn K (.ref fI) = some (.type "function")
  kC : keepIn K (.ref C) = true
  exC : subIn K (.ref C) (.type "BaseException") = some true
  tyC : typeIn K (.ref C) = some (.type "type")
  hdC : hasDictIn K C = true
  fn : ∃ (oc : Value) (od : Option Addr) (doc pm : Value) (an : Option Addr) (cdv ct : Value) (osl : Array (Option Value)) (p1 p2 q1 q2 q3 q4 : Pos),
    K.lookup fI = some ⟨oc, od, .func (fnOf "__init__" qn (iA p1 p2) (iB q1 q2 q3 q4) iS .none .none doc pm an cdv ct), osl⟩ ∧ codeIn K cdv qn = true
theorem one_size (v : Value) : [v].length ≤ sizeLine := by
  rw [sizeLine_eq]
  exact (by decide : 1 ≤ 16777216)
theorem kept_but {K : Frag} {h h' : Heap} {x : Addr} (X : K.In h) (hx : K.lookup x = none) (k : ∀ b o, b ≠ x → h.get? b = some o → h'.get? b = some o) : K.In h' := fun a o e =>
  k a o (fun z => by rw [z, hx] at e; cases e) (X a o e)
theorem ldC {M : Model} {s : Shared} {name : Str} {scope : Scope} {L a : Addr} {cd : Value} {m : Str → Option Value} {x : Str} {pos : Pos} {v : Value} {Q : Value → Shared → Prop} {A : Around} {E : Value → Shared → Prop} (hn : s.heap.Ns L m) (hv : m x = some v) (h : Q v s)
    (hk : scope.kind = .function := by rfl) (hl : (envOfC name scope L a cd).kindOf x = some .local := by rfl) (hd : (x == ("__debug__" : Str)) = false := by decide) :
    wpAny M A (eval (.Name x pos) (envOfC name scope L a cd)) Q E s := wpAny_Name (wpAny_loadName_local hk hl hn hv h) hd
structure InitEnd (h h' : Heap) (x C dx t1 : Addr) (v : Value) : Prop where
  keep : ∀ b o, b ≠ x → h.get? b = some o → h'.get? b = some o
  obj : h'.get? x = some { cls := .ref C, dict := some dx, data := .fields #[.ref t1, .none, .none, .none, .bool false, .none] }
  dbig : h.objs.size ≤ dx
  dne : dx ≠ x
  ns : h'.Ns1 dx (fun y => if y = "value" then some v else none)
structure OwnMade (h h' : Heap) (e C d : Addr) (v : Value) : Prop where
  keep : ∀ b o, h.get? b = some o → h'.get? b = some o
  new : h.objs.size ≤ e
  obj : ∃ oe vs, h'.get? e = some oe ∧ oe.cls = .ref C ∧ oe.dict = some d ∧ oe.data = .fields vs ∧ vs[1]? = some .none ∧ vs[2]? = some .none
  dbig : h.objs.size ≤ d
  dne : d ≠ e
  ns : h'.Ns1 d (fun y => if y = "value" then some v else none)
section
variable {prog : Program} {w : World} {A : Around} {E : Value → Shared → Prop} {R : Result → Shared → Prop} {s : Shared} {K : Frag} {mg : Str → Option Value} {x0 qn : Str} {C fI : Addr}
theorem _value_init (T : LowTxt K mg x0 qn C fI) {x t0 : Addr} {v : Value} (X : K.In s.heap) (hlim : s.heap.NoLimit) (hx : s.heap.get? x = some (excO C t0)) (hnx : K.lookup x = none) (hroom : A.depth < recursionLimit)
    (hq : ∀ h' tk dx, InitEnd s.heap h' x C dx t0 v → R (.ok (.ret .none)) { s with heap := h', toks := tk }) :
    codeAny (model prog w) A (.call (.ref fI) ⟨[.ref x, v], []⟩) R s := by
  obtain ⟨oc, od, doc, pm, an, cdv, ct, osl, p1, p2, q1, q2, q3, q4, ho, hcd⟩ := T.fn
  obtain ⟨nm, q, N, bs, bm, sn, sub, ab, col, dd, k0, k1, k2, k3, k5, hC, hbm⟩ := T.cls
  have hcl : clsIn K C = some { name := nm, bases := bs, mro := .ref C :: bm, ns := N, qualname := q, hasDict := true, slotNames := sn, subclasses := sub, abstract := ab, collection := col, hasDel := false } := by unfold clsIn; rw [hC] <;> rfl
  refine Att.call_fn (binds := [("self", .ref x), ("value", v)]) X hlim ho hcd hroom (BindsTo.of_eq (by first | rfl | with_unfolding_all rfl)) (by first | rfl | decide | with_unfolding_all rfl) (fun s₁ IC => ?_) rfl rfl rfl
  obtain ⟨h₁, tk₁, rfl⟩ := IC.toInCall.same
  have k : ∀ b o, s.heap.get? b = some o → h₁.get? b = some o := IC.toInCall.keep
  have hn := IC.toInCall.ns
  have hxL : s.heap.objs.size ≠ x := Nat.ne_of_gt (Heap.lt_size hx)
  have X₁ : K.In h₁ := X.keeps k
  have hx₁ := k _ _ hx
  -- self.by = by
  show wpAny _ _ (execs _ _) _ _ _
  refine wpAny_execs_cons (plainObj_wpAny_Assign_Attribute ?_)
  refine ldC (v := v) hn (by first | rfl | with_unfolding_all rfl | kernel_rfl) (ldC (v := .ref x) hn (by first | rfl | with_unfolding_all rfl | kernel_rfl) ?_)
  refine set_plain X₁ (ox := excO C t0) (od := none) ⟨hx₁, rfl, rfl, trivial⟩ T.sa ?_
  refine exc_osa X₁ hx₁ hcl (show refsVE (.ref C :: bm) = true from hbm) rfl T.noN (fun h₃ tk₃ dx k₃ dn dne hx₃ hn₃ => ?_)
  show wpAny _ _ (execs _ _) _ _ _
  have z : s.heap.objs.size < h₁.objs.size := hn.lt
  exact wpAny_execs_nil (hq h₃ tk₃ dx ⟨fun b o hb e => k₃ b o hb (k b o e), hx₃, Nat.le_of_lt (Nat.lt_of_lt_of_le z dn), dne, hn₃⟩)
theorem _value_made (T : LowTxt K mg x0 qn C fI) {v : Value} (X : K.In s.heap) (hlim : s.heap.NoLimit) (hroom : A.depth + 1 < recursionLimit)
    (hq : ∀ h' tk e d, OwnMade s.heap h' e C d v → R (.ok (.ret (.ref e))) { s with heap := h', toks := tk }) :
    codeAny (model prog w) A (.call (.ref C) ⟨[v], []⟩) R s := by
  obtain ⟨nm, q, N, bs, bm, sn, sub, ab, col, dd, k0, k1, k2, k3, k5, hC, hbm⟩ := T.cls
  obtain ⟨hp, g, dr, tk, os⟩ := s
  have k : ∀ b o, hp.get? b = some o → ((hp.push (kdv_tup [v])).push (excO C hp.objs.size)).get? b = some o := fun b o e => Heap.get?_push_of_some _ (Heap.get?_push_of_some _ e)
  have hget : ((hp.push (kdv_tup [v])).push (excO C hp.objs.size)).get? (hp.objs.size + 1) = some (excO C hp.objs.size) := by heap_get
  have hnx : K.lookup (hp.objs.size + 1) = none := by
    cases e : K.lookup (hp.objs.size + 1) with
    | none => rfl
    | some o =>
      have z : hp.get? (hp.objs.size + 1) = some o := X _ _ e
      exact absurd (Nat.lt_of_succ_lt (Heap.lt_size z)) (Nat.lt_irrefl _)
  refine call_own F.excBase_ValueError (fun X => refsVE_contains X bm hbm) (X _ _ hC) (looks_findIn X T.iC) (fun self => bind_fn X self T.tC) (one_size v) ?_
  refine _value_init (s := ⟨(hp.push (kdv_tup [v])).push (excO C hp.objs.size), g, dr, tk, os⟩) T (X.keeps k) (hlim.keeps k) hget hnx ?_ fun h' tk' dx ⟨k', hx, dn, dne, hns⟩ => ?_
  · show A.depth + 1 < recursionLimit
    exact hroom
  · have old : ∀ b o, hp.get? b = some o → h'.get? b = some o := fun b o e => k' b o (Nat.ne_of_lt (Nat.lt_succ_of_lt (Heap.lt_size e))) (k b o e)
    have z : hp.objs.size + 1 + 1 ≤ dx := by
      first
        | (simpa only [Heap.size_push] using dn)
        | exact dn
        | (have q := dn; rw [Heap.size_push, Heap.size_push] at q; exact q)
    exact ⟨rfl, hq h' tk' (hp.objs.size + 1) dx ⟨old, Nat.le_succ _, ⟨_, _, hx, rfl, rfl, rfl, rfl, rfl⟩, Nat.le_trans (Nat.le_trans (Nat.le_succ _) (Nat.le_succ _)) z, dne, hns⟩⟩
end
end Er_valueX
end PySem
namespace L2
open PySem PySem.Spec PyProof.Rows
theorem relO__value {v : V} {v' : Value} (r : RelV v v') (f : Str) : RelO (List.lookup f [(("value" : Str), v)]) (if f = "value" then some v' else none) := by
  by_cases hw : f = "value"
  · subst hw
    rw [if_pos rfl]
    have q : List.lookup ("value" : Str) [(("value" : Str), v)] = some v := by simp [List.lookup]
    rw [q]
    exact r
  · rw [if_neg hw]
    have qw : (f == ("value" : Str)) = false := by simpa using hw
    have q2 : List.lookup f [(("value" : Str), v)] = none := by simp [List.lookup, qw]
    rw [q2]
    trivial
section
variable {X : Cx} {x0 qn : Str} {C fI : Addr}
def tMk_value (C : Addr) (ta : TA) : St → Hp → XK → Prop := fun σ H Q => ta σ H fun vs H1 => ∃ v, vs = [v] ∧ ∀ d, H1 d = none → Q (.ref C) (some d) (upd H1 d (.xd [(("value" : Str), v)]))
theorem pmk__value {a : Expr} {ta : TA} {p pos : Pos} {k : Nat} (T : PySem.Er_valueX.LowTxt X.K X.mg x0 qn C fI) (hr : Room k X.A) (ha : PA X [a] ta) (hg : Gl X x0) (hdb : (x0 == ("__debug__" : Str)) = false)
    (he : starEach (a :: []) X.env = (false, eval a X.env) :: starEach [] X.env := by rfl) (hpl : (backTo pos (starEach [] X.env)).any (·.1) = false := by rfl) :
    L2N.PMk X (.Call (.Name x0 p) [a] [] pos) (tMk_value C ta) := by
  intro pins s σ H Q I h
  refine wpAny_Call_Name_kw (ld_glob I hg T.gC ?_ hdb)
  refine PySem.W.callWith_K (h₀ := X.base) I.ok.mod.kin T.kC (thn (ha.run pos pins s σ H _ I h) fun us s1 hh => ?_) he hpl
  obtain ⟨vs, H1, I1, r1, v, ev, q1⟩ := hh
  subst ev
  refine ⟨I1.kIn, ?_⟩
  cases r1 with
  | cons rv rn =>
    rename_i v' us'
    cases rn
    show wpAny _ _ (call (.ref C) [v']) _ _ _
    have hlim := I1.nolimit
    obtain ⟨hp, g, dr, tk, os⟩ := s1
    refine wpAny_call (PySem.Er_valueX._value_made T I1.kIn hlim (by have := hr.dp; omega) fun h' tk' e d M => ?_)
    show L2N.MkP X pins σ Q (.ref e) ⟨h', g, dr, tk', os⟩
    obtain ⟨oe, fv, hoe, hc, hd, hdat, h1, h2⟩ := M.obj
    have hns := M.ns
    obtain ⟨G', g1, g2⟩ := restrict h' fun b => decide (b ≠ e)
    have gk : ∀ b, b ≠ e → G'.get? b = h'.get? b := fun b hb => g1 b (decide_eq_true hb)
    have ge : G'.get? e = none := g2 e (by simp)
    have old : ∀ b o, hp.get? b = some o → G'.get? b = some o := fun b o q => (gk b (Nat.ne_of_lt (Nat.lt_of_lt_of_le (Heap.lt_size q) M.new))).trans (M.keep b o q)
    have ob : ObjOk X.prog X.w (upd H1 d (.xd [(("value" : Str), v)])) G' d (.xd [(("value" : Str), v)]) :=
      ⟨_, hns.at (fun o q => (gk d M.dne).trans q), fun f => relO__value rv f⟩
    have J : Inv X pins σ (upd H1 d (.xd [(("value" : Str), v)])) ⟨G', g, dr, tk', os⟩ := I1.laid (t' := tk') old M.dbig ob
    refine ⟨e, oe, fv, ⟨G', g, dr, tk', os⟩, _, .ref C, some d, rfl, J, fun b o q => ?_, ge, hoe, ⟨hc, hd, fun ws ew => by rw [hdat] at ew; cases ew; exact h2⟩, hdat, h1, ?_, rfl, I1.bare, raises_own T.exC T.tyC, q1 d (I1.hok.fresh M.dbig)⟩
    · by_cases hb : b = e
      · have q' : G'.get? b = some o := q
        rw [hb, ge] at q'; cases q'
      · exact (gk b hb).symm.trans q
    · rw [upd_ne (Ne.symm M.dne)]
      exact I1.hok.fresh M.new
def tRaise_value (C : Addr) (W : WX) (ta : TA) : TS := fun _ σ H => tMk_value C ta σ H fun cls d H' => W cls d σ H'
theorem ps_raise_value {a : Expr} {ta : TA} {W : WX} {p pos pos2 : Pos} {k : Nat} (hc : X.calm = true) (T : PySem.Er_valueX.LowTxt X.K X.mg x0 qn C fI) (hr : Room k X.A) (tk : L2N.Takes X W) (ha : PA X [a] ta) (hg : Gl X x0) (hdb : (x0 == ("__debug__" : Str)) = false)
    (he : starEach (a :: []) X.env = (false, eval a X.env) :: starEach [] X.env := by rfl) (hpl : (backTo pos (starEach [] X.env)).any (·.1) = false := by rfl) :
    PS X (.Raise (some (.Call (.Name x0 p) [a] [] pos)) none pos2) (tRaise_value C W ta) := L2N.ps_raise hc tk (pmk__value T hr ha hg hdb he hpl)
def tBy_value (C : Addr) (a : Addr) (cls : Value) (d : Option Addr) (te : TE) : TE := fun σ H Q => te σ H fun x H1 => x = .ref a ∧ cls = .ref C ∧ ∃ (dd : Addr) (v : V), d = some dd ∧ H1 dd = some (.xd [(("value" : Str), v)]) ∧ Q v H1
theorem pe_by_value {a : Addr} {oe : Obj} {cls : Value} {d : Option Addr} {pn : List (Addr × Obj)} {e : Expr} {te : TE} {pos : Pos} (T : PySem.Er_valueX.LowTxt X.K X.mg x0 qn C fI) (hz : L2N.Zn cls d oe) (hf : ∃ vs, oe.data = .fields vs) (he : PE (X.suite a ((a, oe) :: pn)) e te)
    (hb : attributeBase e "value" X.env (eval e X.env) = eval e X.env := by rfl) :
    PE (X.suite a ((a, oe) :: pn)) (.Attribute e "value" pos) (tBy_value C a cls d te) := by
  refine ⟨fun pins s σ H Q I h => ?_⟩
  refine attr_of hb (thn (he.run pins s σ H _ I h) fun u s1 hh => ?_)
  obtain ⟨x, H1, I1, rx, ex, ec, dd, v, ed, ea, q⟩ := hh
  subst ex
  obtain rfl : u = Value.ref a := rx
  subst ec
  subst ed
  obtain ⟨ha, _⟩ := I1.pin (a, oe) (List.mem_append_left _ List.mem_cons_self)
  obtain ⟨vs, hd⟩ := hf
  have hx : ObjOk X.prog X.w H1 s1.heap dd (.xd [(("value" : Str), v)]) := I1.hok dd _ ea
  obtain ⟨mA, hns, hr⟩ := hx
  obtain ⟨od, ho, hl⟩ := lookIn_ns hns
  have l : List.lookup ("value" : Str) [(("value" : Str), v)] = some v := by simp [List.lookup]
  obtain ⟨u, hu, ru⟩ := RelO.some_of (v := v) (o := mA "value") (by rw [← l]; exact hr "value")
  have J : PySem.W.InstAt s1.heap a oe C (some od) := ⟨ha, hz.1, by unfold PySem.W.notCls; rw [hd] <;> rfl, by rw [hz.2.1]; exact ho⟩
  exact HandSPX.exc_get I1.kIn J T.ga T.gg T.exC (PySem.W.findObj_own T.hdC T.noN rfl (by rw [hl, hu])) (handed_of ru) ⟨v, H1, I1.tok _, ru, q⟩
end
end L2
namespace CS
open PySem PySem.Spec PyProof.Rows L2
section
variable {A : AD} {X : Cx} {W : WX}
def sRsA (k : Nat) (f : Str) (fe : DE) : DS := fun ρ st => sb ρ (fe ρ st) fun v st1 => some (.exc (k, [(f, v)]), ρ, st1)
theorem pms_rs_value {k : Nat} {C fI : Addr} {x0 qn : Str} {a : Expr} {fe : DE} {p pos pos2 : Pos} {l : Nat} (hca : A.ca k = some C) (hc : X.calm = true) (tk : L2N.Takes X W) (T : PySem.Er_valueX.LowTxt X.K X.mg x0 qn C fI) (hr : Room l X.A) (he : PM A X W a fe) (hg : Gl X x0) (hdb : (x0 == ("__debug__" : Str)) = false)
    (hs : starEach (a :: []) X.env = (false, eval a X.env) :: starEach [] X.env) (hpl : (backTo pos (starEach [] X.env)).any (·.1) = false) : PMS A X W (.Raise (some (.Call (.Name x0 p) [a] [] pos)) none pos2) (sRsA k "value" fe) := by
  refine (ps_raise_value hc T hr tk (pa_cons he pa_nil hs) hg hdb hs hpl).imp fun D σ H ⟨m, ρ, st, r, v, h⟩ => ?_
  refine ⟨m, ρ, st, r, v, (SRun.sb h v).imp fun x st1 m1 H1 r1 e1 k1 u hu => ?_⟩
  refine ⟨u, rfl, fun d hd => ?_⟩
  have e2 : Ext (gc A X) m1 H1 m1 (upd H1 d (.xd [(("value" : Str), u)])) := ext_new hd
  exact k1 m1 _ σ (.ref C) (some d) e2 (r1.same (upd_keeps hd)) ((v.mono e1).mono e2) ⟨C, hca, rfl, .inr ⟨d, _, rfl, upd_same, .cons ⟨rfl, hu.mono e2⟩ .nil⟩⟩
end
variable {ρ : MEnv} {st : Sto} {PS : Fl → MEnv → Sto → Prop}
theorem s_rsA {k : Nat} {f : Str} {fe : DE} : WpS (sRsA k f fe ρ st) PS = Wp (fe ρ st) (fun v st1 => PS (.exc (k, [(f, v)])) ρ st1) (fun x st1 => PS (.exc x) ρ st1) := by
  unfold sRsA
  simp only [wps_sb, wps_some]
end CS
namespace CS
open PySem PySem.Spec PyProof.Rows L2
section
variable {A : AD} {X : Cx} {W : WX}
def clr (i : Nat) : SR → SR
  | some (.nx, ρ, st) => some (.nx, ρ.set i none, st)
  | some (.bk, ρ, st) => some (.bk, ρ.set i none, st)
  | some (.ct, ρ, st) => some (.ct, ρ.set i none, st)
  | some (.rt v, ρ, st) => some (.rt v, ρ, st)
  | _ => none
def asN (i : Nat) (f : MX → DS) : MX → DS := fun x ρ st => clr i (f x (ρ.set i none) st)
def pickN (x : MX) (ρ : MEnv) (st : Sto) : List ((Nat → Option Bool) × (MX → DS)) → SR
  | [] => some (.exc x, ρ, st)
  | (t, f) :: r => match t x.1 with
    | none => none
    | some true => (match f x ρ st with
      | some (.exc _, _, _) => none
      | z => z)
    | some false => pickN x ρ st r
def sTryN (fb : DS) (l : List ((Nat → Option Bool) × (MX → DS))) : DS := fun ρ st => match fb ρ st with
  | some (.exc x, ρ', st') => pickN x ρ' st' l
  | z => z
def tSx (c : GC) (f : MX → DS) (i : Nat) (a : Addr) (cls : Value) (d : Option Addr) : TS := fun D σ H => ∃ m ρ st x, Rel c m st H ∧ REnv c m H ρ σ ∧ (i < σ.length → σ[i]? = some (some (.ref a))) ∧ RX c m H x cls d ∧ SRun c W0 D m H (f x ρ st)
inductive ClN (A : AD) (X : Cx) : List ExceptHandler → List ((Nat → Option Bool) × (MX → DS)) → Prop
  | nil : ClN A X [] []
  | plain {x : Str} {nm : Option Str} {c : Value} {t : Nat → Option Bool} {f : DS} {b : Stmt} {suite : List Stmt} {np p : Pos} {hds : List ExceptHandler} {l : List ((Nat → Option Bool) × (MX → DS))} (hc : Names X x c)
      (ht : ∀ k C v, A.ca k = some C → t k = some v → PySem.W.exmOne X.K (.ref C) c = some v)
      (walk : nm = none → ∀ (a : Addr) (oe : Obj) (pn : List (Addr × Obj)), PMSs A (X.suite a ((a, oe) :: pn)) W0 (b :: suite) f)
      (never : nm ≠ none → ∀ ρ st, f ρ st = none) (r : ClN A X hds l) :
      ClN A X (.ExceptHandler (some (.Name x np)) nm (b :: suite) p :: hds) ((t, fun _ => f) :: l)
  | named {x n : Str} {c : Value} {t : Nat → Option Bool} {f : MX → DS} {b : Stmt} {suite : List Stmt} {np p : Pos} {hds : List ExceptHandler} {l : List ((Nat → Option Bool) × (MX → DS))} {i : Nat} (hc : Names X x c)
      (ht : ∀ k C v, A.ca k = some C → t k = some v → PySem.W.exmOne X.K (.ref C) c = some v) (hN : X.N.Nodup) (hi : X.N[i]? = some n) (hln : X.env.kindOf n = some .local)
      (walk : ∀ (a : Addr) (oe : Obj) (cls : Value) (d : Option Addr) (pn : List (Addr × Obj)), L2N.Zn cls d oe → (∃ vs, oe.data = .fields vs) → PSs (X.suite a ((a, oe) :: pn)) (b :: suite) (tSx (gc A X) f i a cls d)) (r : ClN A X hds l) :
      ClN A X (.ExceptHandler (some (.Name x np)) (some n) (b :: suite) p :: hds) ((t, asN i f) :: l)
theorem SRun.ofClr {c : GC} {W V : WX} {D : Ends} {m : List Addr} {H : Hp} {i : Nat} {r : SR} (h : SRun c W D m H (match clr i r with
    | some (.exc _, _, _) => none
    | z => z)) : SRun c V (asE i D) m H r := by
  match r, h with
  | some (.nx, _, _), h => exact fun m' H' σ' e r v => h m' H' (σ'.set i none) e r v.unset
  | some (.bk, _, _), h => exact fun m' H' σ' e r v => h m' H' (σ'.set i none) e r v.unset
  | some (.ct, _, _), h => exact fun m' H' σ' e r v => h m' H' (σ'.set i none) e r v.unset
  | some (.rt _, _, _), h => exact h
theorem pms_tryN {body : List Stmt} {h0 : ExceptHandler} {hds : List ExceptHandler} {l : List ((Nat → Option Bool) × (MX → DS))} {fb : DS} {pos : Pos} (hst : X.stack = X.env :: X.outer) (hfl : X.env.frame = some X.env.locals) (tk : L2N.Takes X W)
    (hb : ∀ (V : WX) (pn : List (Addr × Obj)) (xe : Value → Shared → Prop), L2N.Takes (X.tr pn xe) V → PassesOwn (model X.prog X.w) X.A X.env xe → PMSs A (X.tr pn xe) V body fb)
    (hh : ClN A X (h0 :: hds) l) : PMS A X W (.Try body (h0 :: hds) [] [] pos) (sTryN fb l) := by
  have cl : ∀ {hs : List ExceptHandler} {l : List ((Nat → Option Bool) × (MX → DS))}, ClN A X hs l → ∃ w, ClX X hs w ∧ ∀ (D : Ends) (x : MX) (ρ : MEnv) (st : Sto) (m : List Addr) (H : Hp) (σ : L2.St) (cls : Value) (d : Option Addr), Rel (gc A X) m st H → REnv (gc A X) m H ρ σ → RX (gc A X) m H x cls d →
      SRun (gc A X) W D m H (pickN x ρ st l) → wMany X.K W D w cls d σ H := by
    intro hs l h
    induction h with
    | nil => exact ⟨[], .nil, fun D x ρ st m H σ cls d r v rx h => h m H σ cls d .refl r v rx⟩
    | @plain x nm c t f b suite np p hds l hc ht walk never r IH =>
      obtain ⟨w, hw, go⟩ := IH
      refine ⟨(c, fun _ _ _ => tMS (gc A X) W0 f) :: w, .cons hc (fun e a oe cls d pn _ _ => walk e a oe pn) (fun e a cls d D σ H ⟨m, ρ, st, _, _, k⟩ => by rw [never e] at k; exact k) hw, ?_⟩
      intro D x ρ st m H σ cls d rr v rx h
      obtain ⟨C, hC, rfl, _⟩ := id rx
      unfold pickN at h
      cases q : t x.1 with
      | none => rw [q] at h; exact h.elim
      | some y =>
        rw [q] at h
        refine ⟨y, ht _ _ _ hC q, ?_, ?_⟩
        · rintro rfl a _
          exact ⟨m, ρ, st, rr, v, h.calmW⟩
        · rintro rfl
          exact go D x ρ st m H σ _ d rr v rx h
    | @named x n c t f b suite np p hds l i hc ht hN hi hln walk r IH =>
      obtain ⟨w, hw, go⟩ := IH
      refine ⟨(c, fun a cls d D σ H => tSx (gc A X) f i a cls d (asE i D) (σ.set i (some (.ref a))) H) :: w, .named (ts := fun a cls d => tSx (gc A X) f i a cls d) hc hN hi hln walk hw, ?_⟩
      intro D x ρ st m H σ cls d rr v rx h
      obtain ⟨C, hC, rfl, _⟩ := id rx
      unfold pickN at h
      cases q : t x.1 with
      | none => rw [q] at h; exact h.elim
      | some y =>
        rw [q] at h
        refine ⟨y, ht _ _ _ hC q, ?_, ?_⟩
        · rintro rfl a _
          refine ⟨m, ρ.set i none, st, x, rr, ⟨by simpa using v.len, fun j z hz => ?_⟩, fun hlt => ?_, rx, SRun.ofClr h⟩
          · by_cases hj : j = i
            · subst hj
              by_cases hl : j < ρ.length
              · rw [List.getElem?_set_self hl] at hz; cases hz
              · rw [List.getElem?_eq_none (by simpa using hl)] at hz; cases hz
            · rw [List.getElem?_set_ne (Ne.symm hj)] at hz
              rw [List.getElem?_set_ne (Ne.symm hj)]
              exact v.at_ j z hz
          · exact List.getElem?_set_self (by simpa using hlt)
        · rintro rfl
          exact go D x ρ st m H σ _ d rr v rx h
  obtain ⟨w, hw, go⟩ := cl hh
  refine (ps_try_mix hst hfl tk (tb := fun V => tMS (gc A X) V fb) (fun V pn xe t o => hb V pn xe t o) hw).imp fun D σ H ⟨m, ρ, st, r, v, k⟩ => ⟨m, ρ, st, r, v, ?_⟩
  unfold sTryN at k
  match q : fb ρ st, k with
  | none, k => exact k
  | some (.nx, _, _), k => exact k
  | some (.rt _, _, _), k => exact k
  | some (.bk, _, _), k => exact k
  | some (.ct, _, _), k => exact k
  | some (.exc x, ρ', st'), k => exact fun m' H' σ' cls d e r' v' rx => go D x ρ' st' m' H' σ' cls d r' v' rx (SRun.from k e)
end
end CS
namespace CS
open PySem PySem.Spec PyProof.Rows L2
section
variable {c : GC} {m m' : List Addr} {st : Sto} {H H' : Hp}
theorem Rel.xd_out (r : Rel c m st H) {dd : Addr} {gs : List (Str × V)} (h : H dd = some (.xd gs)) : dd ∉ m := fun hm => by
  obtain ⟨i, hi, e⟩ := List.mem_iff_getElem.mp hm
  have hs : i < st.length := by rw [← r.len]; exact hi
  obtain ⟨a, h1, h2⟩ := r.obj i st[i] (List.getElem?_eq_getElem hs)
  have ea : a = dd := by
    rw [List.getElem?_eq_getElem hi] at h1
    rw [← e]
    exact (Option.some.inj h1).symm
  subst ea
  revert h2
  cases st[i] with
  | lst xs => rintro ⟨vs, z, _⟩; rw [h] at z; cases z
  | frz xs => rintro ⟨u, vs, z, _⟩; rw [h] at z; cases z
  | ins k fs => rintro ⟨C, dx, gs, _, z, _⟩; rw [h] at z; cases z
  | dct => intro (z : H a = some (.dK [])); rw [h] at z; cases z
theorem RX.mono {x : MX} {cls : Value} {d : Option Addr} (r : Rel c m st H) (e : Ext c m H m' H') (h : RX c m H x cls d) : RX c m' H' x cls d := by
  obtain ⟨C, hC, rfl, z⟩ := h
  rcases z with z | ⟨dd, gs, rfl, hd, rf⟩
  · exact ⟨C, hC, rfl, .inl z⟩
  · exact ⟨C, hC, rfl, .inr ⟨dd, gs, rfl, e.frame dd _ hd (r.xd_out hd) (fun ps z => by cases z), rf.mono e⟩⟩
end
end CS
namespace CS
open PySem PySem.Spec PyProof.Rows L2
structure ExcD (K : PySem.W.Frag) (D : Addr) : Prop where
  hc : (PySem.W.clsIn K D).isSome = true
  hg : PySem.W.findIn K (.ref D) "__getattribute__" = some (some (.builtin "BaseException.__getattribute__"))
  hk : PySem.W.findIn K (.ref D) "__getattr__" = some none
  hs : PySem.W.subIn K (.ref D) (.type "BaseException") = some true
  ha : PySem.W.findIn K (.ref D) "__class__" = some (some (.builtin "object.__class__"))
  hn : PySem.W.specialIn K (.builtin "object.__class__") "__get__" = some (some (.builtin "getset_descriptor.__get__"))
  ht : PySem.W.takesIn K (.builtin "object.__class__") = some true
  hm : PySem.W.mroIn K D (.type "object") = some true
def rIsD (K : PySem.W.Frag) (D a dd : Addr) : List V → Hp → VK → Prop := fun xs H Q => ∃ (c : V) (cv : Value) (b : Bool) (gs : List (Str × V)), xs = [.ref a, c] ∧ (∀ u, RelV c u → u = cv) ∧ PySem.W.kitOne K (.ref D) cv = some b ∧ H dd = some (.xd gs) ∧ Q (.bl b) H
theorem call_isD {X : Cx} {a D dd : Addr} {oe : Obj} {pn : List (Addr × Obj)} (E : ExcD X.K D) (hz : L2N.Zn (.ref D) (some dd) oe) (hf : ∃ vs, oe.data = .fields vs) : CallR (X.suite a ((a, oe) :: pn)) (.builtin "isinstance") (rIsD X.K D a dd) := by
  intro pk s σ H xs us Q I r h
  obtain ⟨cl, cv, b, gs, rfl, hcv, one, hx, q⟩ := h
  match us, r with
  | [u0, u1], .cons r0 (.cons r1 .nil) =>
    obtain rfl : u0 = Value.ref a := r0
    obtain rfl := hcv _ r1
    obtain ⟨held, _⟩ := I.pin (a, oe) (List.mem_append_left _ List.mem_cons_self)
    obtain ⟨vs, dat⟩ := hf
    obtain ⟨mA, ns, _⟩ : ObjOk X.prog X.w H s.heap dd (.xd gs) := I.hok dd _ hx
    obtain ⟨od, look, _⟩ := lookIn_ns ns
    have J : PySem.W.InstAt s.heap a oe D (some od) := ⟨held, hz.1, by unfold PySem.W.notCls; rw [dat] <;> rfl, by rw [hz.2.1]; exact look⟩
    exact PySem.W.kia_one (PySem.W.kitx_exc E.hc E.hg E.hk E.hs E.ha E.hn E.ht E.hm) I.kIn J one (fun z => nomatch z) fun tk => ⟨.bl b, H, I.kept (t' := tk) fun _ _ z => z, rfl, q⟩
end CS
namespace CS
open PySem PySem.Spec PyProof.Rows L2
def fRet (k0 : Nat) (s g : Str) : MX → DS := fun x ρ st => match x with
  | (k, [(h, v)]) => if k = k0 ∧ h = g then some (.rt (.ref st.length), ρ, st ++ [.lst [.str s, v, .bl true]]) else none
  | _ => none
theorem suite_ret_value {A : AD} {X : Cx} {a : Addr} {oe : Obj} {cls : Value} {d : Option Addr} {pn : List (Addr × Obj)} {k0 i : Nat} {C fI : Addr} {x0 qn n s cn1 cn2 : Str} {c1 c2 : V} {cv1 cv2 : Value} {p1 p2 p3 p4 p5 p6 p7 p8 p9 p10 p11 p12 p13 p14 : Pos} {j1 : Nat}
    (hca : A.ca k0 = some C) (T : PySem.Er_valueX.LowTxt X.K X.mg x0 qn C fI) (E : ExcD X.K C) (hz : L2N.Zn cls d oe) (hf : ∃ vs, oe.data = .fields vs)
    (hi : X.N[i]? = some n) (hv : Vis X.env.scope n) (hd : (n == ("__debug__" : Str)) = false) (hcd : (n == ("__classdict__" : Str)) = false)
    (hc1 : PE (X.suite a ((a, oe) :: pn)) (.Name cn1 p1) (tC c1)) (hc2 : PE (X.suite a ((a, oe) :: pn)) (.Name cn2 p2) (tC c2)) (h1 : ∀ u, RelV c1 u → u = cv1) (h2 : ∀ u, RelV c2 u → u = cv2)
    (k1 : PySem.W.kitOne X.K (.ref C) cv1 = some true) (k2 : PySem.W.kitOne X.K (.ref C) cv2 = some true) (hb : X.mg "isinstance" = none) (hg : Gl X "isinstance") :
    PSs (X.suite a ((a, oe) :: pn)) [.Return (some (.List [.Constant (.str s) j1 p3, .Attribute (.Name n p4) "value" p5, .BoolOp .And [.Call (.Name "isinstance" p6) [.Name n p7, .Name cn1 p1] [] p8, .Call (.Name "isinstance" p9) [.Name n p10, .Name cn2 p2] [] p11] p12] p13)) p14] (tSx (gc A X) (fRet k0 s "value") i a cls d) := by
  have var : ∀ q : Pos, PE (X.suite a ((a, oe) :: pn)) (.Name n q) (tVar i) := fun q => pe_var (X := X.suite a ((a, oe) :: pn)) hi hv hd hcd
  refine ⟨fun pk s0 σ H D I w => ?_⟩
  obtain ⟨m, ρ, st, x, rel, env, hσ, rx, k⟩ := w
  have len : i < σ.length := by
    rw [I.len]
    exact (List.getElem?_eq_some_iff.mp hi).1
  have hσ := hσ len
  unfold fRet at k
  split at k
  · rename_i kx h v
    split at k
    · rename_i hh
      obtain ⟨rfl, rfl⟩ := hh
      obtain ⟨C', hC', rfl, z⟩ := id rx
      have eC : C' = C := by
        have : A.ca kx = some C' := hC'
        rw [hca] at this
        exact (Option.some.inj this).symm
      subst eC
      rcases z with z | ⟨dd, gs, rfl, hd', rf⟩
      · cases z
      · cases rf with
        | @cons _ q _ qs hq hr =>
        cases hr
        obtain ⟨e1, hu⟩ := hq
        obtain ⟨g', u⟩ := q
        dsimp only at e1 hu
        subst e1
        have is1 := fun q r => pe_callB (X := X.suite a ((a, oe) :: pn)) (p := q) (pos := r) (call_isD E hz hf) hg hb (by rfl) (pa_cons (var p7) (pa_cons hc1 pa_nil))
        have is2 := fun q r => pe_callB (X := X.suite a ((a, oe) :: pn)) (p := q) (pos := r) (call_isD E hz hf) hg hb (by rfl) (pa_cons (var p10) (pa_cons hc2 pa_nil))
        refine (pss_one (ps_ret (pe_lst (pa_cons pe_str (pa_cons (pe_by_value T hz hf (var p4)) (pa_cons (pe_and (is1 p6 p8) (pe_one (is2 p9 p11))) pa_nil)))))).run pk s0 σ H D I ?_
        refine ⟨_, hσ, rfl, rfl, dd, u, rfl, hd', ?_⟩
        refine ⟨_, hσ, c1, cv1, true, _, rfl, h1, k1, hd', true, rfl, ?_⟩
        refine ⟨_, hσ, c2, cv2, true, _, rfl, h2, k2, hd', ?_⟩
        refine ⟨(by show 3 ≤ sizeLine; decide), fun p hp => ?_⟩
        obtain ⟨r2, e2⟩ := rel.grow (o := .lst [.str s, v, .bl true]) hp (upd_keeps hp) ⟨_, upd_same, .cons (.str s) (.cons (hu.mono (Ext.grow hp (upd_keeps hp))) (.cons (.bl true) .nil))⟩
        exact k _ _ _ e2 r2 (.ref (by rw [← rel.len]; simp))
    · exact k.elim
  · exact k.elim
end CS
namespace CS
open PySem PySem.Spec PyProof.Rows L2
section
variable {A : AD} {X : Cx} {W : WX} {pos : Pos}
def MtsK (A : AD) (X : Cx) (W : WX) (m : Str) (ks : List Str) (t : List (Nat × (List MV → List MV → Sto → R MV))) : Prop :=
  ∀ k g, t.lookup k = some g → ∀ C, A.ca k = some C → ∃ f, Cls X.K C ∧ Meth X.K C m f ∧ CvOk A X W (.ref f) 1 ks g
def eMthK (t : List (Nat × (List MV → List MV → Sto → R MV))) (m : Str) (fo : DE) (fk : DA) : DE := fun ρ st => bnd (fo ρ st) fun x st1 => match x with
  | .ref i => (match st1[i]? with
    | some (.ins k fs) => (match t.lookup k, fs.lookup m with
      | some g, none => bnd (fk ρ st1) fun zs st2 => g [x] zs st2
      | _, _ => none)
    | _ => none)
  | _ => none
theorem pm_mthK {t : List (Nat × (List MV → List MV → Sto → R MV))} {o : Expr} {fo : DE} {fk : DA} {mt : Str} {kws : List Keyword} {ks : List Str} {apos : Pos} {pl : Sem Bool} (ht : MtsK A X W mt ks t) (ho : PM A X W o fo) (hkw : PMK A X W kws fk) (hlk : LenA fk ks.length)
    (hall : (backToKw pos (keywordEach kws X.env)).all (·.1.isSome) = true) (hks : (backToKw pos (keywordEach kws X.env)).filterMap (·.1) = ks)
    (hpl : ((backTo pos (starEach [] X.env)).any (·.1) || (backToKw pos (keywordEach kws X.env)).any (·.1.isNone)) = false)
    (hev : eval (.Call (.Attribute o mt apos) [] kws pos) X.env = (do
      let ov ← eval o X.env
      standAt apos.atName
      let (f, first) ← holding [ov] (getMethod ov mt pl)
      callWith pos f first (backTo pos (starEach [] X.env)) (backToKw pos (keywordEach kws X.env)))) :
    PM A X W (.Call (.Attribute o mt apos) [] kws pos) (eMthK t mt fo fk) := by
  refine ⟨fun pins s σ H Q I ⟨m, ρ, st, r, v, k⟩ => ?_⟩
  have w : tM (gc A X) W fo σ H (fun u H1 => ∃ m1 st1 x, Rel (gc A X) m1 st1 H1 ∧ REnv (gc A X) m1 H1 ρ σ ∧ RV (gc A X) m1 H1 x u ∧ Run (gc A X) W σ m1 H1 (match x with
      | .ref i => (match st1[i]? with
        | some (.ins k fs) => (match t.lookup k, fs.lookup mt with
          | some g, none => bnd (fk ρ st1) fun zs st2 => g [x] zs st2
          | _, _ => none)
        | _ => none)
      | _ => none) (kV (gc A X) Q)) := tM.thenG r v k fun x u st1 m1 H1 r1 e1 v1 hu k1 => ⟨m1, st1, x, r1, v1, hu, k1⟩
  refine PySem.W.methodCall_KW (pl := pl) (thn (ho.run pins s σ H _ I w) fun ov s1 hh => ?_) hev
  obtain ⟨u, H1, I1, ru, m1, st1, x, r1, v1, hu, k1⟩ := hh
  cases x with
  | ref i =>
    cases hu with
    | @ref i a hi =>
    obtain rfl : ov = Value.ref a := ru
    dsimp only at k1
    split at k1
    · rename_i kk fs hs
      split at k1
      · rename_i g hg hn
        obtain ⟨C, dx, gs, h0, h1, h2⟩ := r1.ins hs hi
        obtain ⟨f, c1, c2, cv⟩ := ht kk g hg C h0
        refine getmeth_ok I1 h1 c1 c2 (RF.none h2 hn) ?_
        have w2 : tMA (gc A X) W fk σ H1 (fun ws H2 => ∃ m2 st2 zs, Rel (gc A X) m2 st2 H2 ∧ RV (gc A X) m2 H2 (.ref i) (.ref a) ∧ RVs (gc A X) m2 H2 zs ws ∧ zs.length = ks.length ∧ Run (gc A X) W σ m2 H2 (g [.ref i] zs st2) (kV (gc A X) Q)) :=
          ⟨m1, ρ, st1, r1, v1, (Run.bnd k1).known.imp fun zs st2 m2 H2 r2 e2 ⟨eq, k2⟩ us hus => ⟨m2, st2, zs, r2, .ref (e2.at hi), hus, hlk _ _ _ _ eq, k2⟩⟩
        refine PySem.W.callWith_KW0 (first := [.ref a]) (h₀ := X.base) I.ok.mod.kin c2.kp hall (thn (hkw.run pos pins s1 σ H1 _ I1 w2) fun ws s2 hh2 => ?_) hpl
        obtain ⟨zv, H2, I2, rz, m2, st2, zs, r2, hx, hz, hzl, k2⟩ := hh2
        rw [hks]
        exact ⟨I2.kIn, cv pins σ H2 s2 Q m2 st2 [.ref i] zs [.ref a] zv [.ref a] ws I2 r2 (.cons hx .nil) (.cons rfl .nil) hz rz rfl hzl k2⟩
      · exact k1.elim
    · exact k1.elim
  | _ => exact k1.elim
end
end CS
namespace CS
open PySem PySem.Spec PyProof.Rows L2
section
variable {A : AD} {X : Cx} {W : WX} {D : List DefT} {p : Pl} {S : Nat → List MV → Sto → R MV} {ar : Nat → Nat} {l : Nat}
theorem mtsK_nil {m : Str} {ks : List Str} : MtsK A X W m ks [] := fun _ _ h => by cases h
theorem Gd.mtsK (G : Gd A X W D p S ar l) {m : Str} {mt : Tl} {ks : List Str} {c j : Nat} {d : DefT} {arr : List Src} {t : List (Nat × (List MV → List MV → Sto → R MV))} (M : MtT A X.K p m mt) (hm : (c, j) ∈ mt) (h : D[j]? = some d)
    (hs : ShapeOk X.K (p.fd j) d.ps [] ⟨1, ks, arr⟩) (r : MtsK A X W m ks t) : MtsK A X W m ks ((c, fun xs zs st => S j (arrG .non ⟨1, ks, arr⟩ xs zs []) st) :: t) := by
  intro k g hg C hC
  rw [List.lookup_cons] at hg
  by_cases hk : k = c
  · subst hk
    rw [beq_self_eq_true] at hg
    cases hg
    obtain ⟨c1, c2⟩ := M _ hm C hC
    exact ⟨p.fa j, c1, c2, G.cvk j d h hs⟩
  · rw [beq_eq_false_iff_ne.mpr hk] at hg
    exact r k g hg C hC
end
section
variable {ρ : MEnv} {st : Sto} {P : MV → Sto → Prop} {Xe : MX → Sto → Prop} {PS : Fl → MEnv → Sto → Prop}
theorem e_mthK {t : List (Nat × (List MV → List MV → Sto → R MV))} {m : Str} {fo : DE} {fk : DA} : Wp (eMthK t m fo fk ρ st) P Xe = Wp (fo ρ st) (fun x st1 => Wp (match x with
    | .ref i => (match st1[i]? with
      | some (.ins k fs) => (match t.lookup k, fs.lookup m with
        | some g, none => bnd (fk ρ st1) fun zs st2 => g [x] zs st2
        | _, _ => none)
      | _ => none)
    | _ => none) P Xe) Xe := by unfold eMthK; simp only [wp_bnd] <;> rfl
theorem e_mthK_ref {t : List (Nat × (List MV → List MV → Sto → R MV))} {m : Str} {fk : DA} {i k : Nat} {fs : List (Str × MV)} {g : List MV → List MV → Sto → R MV} (h : st[i]? = some (.ins k fs)) (h1 : t.lookup k = some g) (h2 : fs.lookup m = none) :
    Wp (match (MV.ref i : MV) with
      | .ref i => (match st[i]? with
        | some (.ins k fs) => (match t.lookup k, fs.lookup m with
          | some g, none => bnd (fk ρ st) fun zs st2 => g [.ref i] zs st2
          | _, _ => none)
        | _ => none)
      | _ => (none : R MV)) P Xe = Wp (fk ρ st) (fun zs st2 => Wp (g [.ref i] zs st2) P Xe) Xe := by
  dsimp only
  rw [h]
  dsimp only
  rw [h1, h2]
  dsimp only
  rw [wp_bnd]
theorem s_tryN {fb : DS} {l : List ((Nat → Option Bool) × (MX → DS))} : WpS (sTryN fb l ρ st) PS = WpS (fb ρ st) (fun fl ρ' st' => match fl with
    | .exc x => WpS (pickN x ρ' st' l) PS
    | fl => PS fl ρ' st') := by
  unfold sTryN
  generalize fb ρ st = r
  match r with
  | none => rfl
  | some (.nx, _, _) => rfl
  | some (.rt _, _, _) => rfl
  | some (.bk, _, _) => rfl
  | some (.ct, _, _) => rfl
  | some (.exc _, _, _) => rfl
theorem pN_no {x : MX} {t : Nat → Option Bool} {f : MX → DS} {r : List ((Nat → Option Bool) × (MX → DS))} (h : t x.1 = some false) : pickN x ρ st ((t, f) :: r) = pickN x ρ st r := by
  show (match t x.1 with
    | none => none
    | some true => _
    | some false => pickN x ρ st r) = _
  rw [h]
theorem pN_yes {x : MX} {t : Nat → Option Bool} {f : MX → DS} {r : List ((Nat → Option Bool) × (MX → DS))} (h : t x.1 = some true) (w : WpS (f x ρ st) fun fl ρ' st' => match fl with
    | .exc _ => False
    | fl => PS fl ρ' st') : WpS (pickN x ρ st ((t, f) :: r)) PS := by
  unfold pickN
  rw [h]
  show WpS (match f x ρ st with
    | some (.exc _, _, _) => none
    | z => z) PS
  match q : f x ρ st, w with
  | some (.nx, _, _), w => exact w
  | some (.rt _, _, _), w => exact w
  | some (.bk, _, _), w => exact w
  | some (.ct, _, _), w => exact w
  | some (.exc _, _, _), w => exact w.elim
  | none, w => exact w.elim
theorem n_ret {k0 i : Nat} {s g : Str} {v : MV} (w : PS (.rt (.ref st.length)) (ρ.set i none) (st ++ [.lst [.str s, v, .bl true]])) : WpS (asN i (fRet k0 s g) (k0, [(g, v)]) ρ st) PS := by
  unfold asN fRet
  simp only [and_self, if_true]
  exact w
def fPair (k0 : Nat) (s g : Str) (i j : Nat) : MX → DS := fun x ρ st => match x with
  | (k, [(h, v)]) => if k = k0 ∧ h = g then some (.nx, (ρ.set i (some (.str s))).set j (some v), st) else none
  | _ => none
theorem n_pair {k0 n i j : Nat} {s g : Str} {v : MV} (w : PS .nx ((((ρ.set n none).set i (some (.str s))).set j (some v)).set n none) st) : WpS (asN n (fPair k0 s g i j) (k0, [(g, v)]) ρ st) PS := by
  unfold asN fPair
  simp only [and_self, if_true]
  exact w
end
end CS
namespace CS
open PySem PySem.Spec PyProof.Rows L2
theorem bb_ValueError : bootBuiltins "ValueError" = some (.type "ValueError") := by decide +kernel
theorem bb_ArithmeticError : bootBuiltins "ArithmeticError" = some (.type "ArithmeticError") := by decide +kernel
end CS
namespace CS
open PySem PySem.Spec PyProof.Rows L2
section
variable {prog : Program} {w : World} {A : Around} {E : Value → Shared → Prop} {s : Shared}
theorem tup_end_hot {it t x1 : Addr} {i : Nat} {items : Array Value} {Q : Option Value → Shared → Prop} (hot : HotX.HotAt A x1 s.heap) (ne : x1 ≠ it) (k1 : IsTupIter s.heap it t i) (k2 : IsTup s.heap t items) (k3 : items[i]? = none)
    (kq : ∀ h', Heap.ExtBut it s.heap h' → Q none { s with heap := h' }) : wpAny (model prog w) A (pyNext (.ref it)) Q E s := by
  obtain ⟨oi, g1, gc, gd⟩ := id k1
  obtain ⟨ot, g2, _, nl, gt⟩ := k2
  obtain ⟨hh, ox, vx, y1, y2, y3⟩ := hot
  unfold pyNext
  refine wpAny_bind (wpAny_attempt (wpAny_callSpecial?_slot (name := Str.ofString "__next__") k1.typeIs slot_tupleiter_next (wpAny_call_entry slot_tupleiter_next k1.typeIs entry_tupleiter_next ?_ (args_tupleiter_next _))))
  refine (show wpAny _ _ (field (.ref it) 0 >>= _) _ _ s from wpAny_bind (wpAny_field g1 gd (x := .ref t) rfl ?_))
  show wpAny _ _ (if (Value.ref t == Value.none) = true then _ else _) _ _ s
  rw [if_neg (fun z : (Value.ref t == Value.none) = true => Bool.noConfusion z)]
  refine (show wpAny _ _ (field (.ref it) 1 >>= _) _ _ s from wpAny_bind (wpAny_field g1 gd (x := .int i 0) rfl ?_))
  refine (show wpAny _ _ (seqItems? (.ref t) >>= _) _ _ s from wpAny_bind (wpAny_seqItems g2 gt ?_))
  simp only [Int.toNat_natCast, k3]
  refine wpAny_bind (wpAny_rule (wpAny_bind (wpAny_setField g1 gd (by simp) ?_)))
  refine (show wpAny _ _ (newExc (.type "StopIteration") [] >>= _) _ _ _ from wpAny_bind ?_)
  simp only [newExc, newTuple]
  refine wpAny_bind (wpAny_newObj_type ?_ (by size_fits))
  refine wpAny_bind (m := firstArgMember _ _) (wpAny_of_eq (a := Value.none) (by first | rfl | (simp only [firstArgMember]; rfl)) ?_)
  refine wpAny_newObj_type ?_ (by size_fits)
  have y0 : (s.heap.update it (Obj.mapFields (·.setIfInBounds 0 .none))).get? x1 = some ox := by
    rw [Heap.get?_update_other _ _ ne.symm]; exact y1
  refine HotX.raiseNew_hot ⟨hh, ox, vx, Heap.get?_push_of_some _ (Heap.get?_push_of_some _ y0), y2, y3⟩ (Nat.ne_of_lt (Heap.lt_size (Heap.get?_push_of_some _ y0))) (Heap.get?_push_size _ rfl) rfl (by first | (simp; done) | (simp; omega)) ?_
  refine wpAny_bind (wpAny_isInstance (T := "StopIteration") (b := true) ⟨_, Heap.get?_update_self _ (Heap.get?_push_size _ rfl) rfl, rfl⟩ isSubtype_stop ?_)
  refine wpAny_pure (kq _ fun b o hb e => ?_)
  have e0 : (s.heap.update it (Obj.mapFields (·.setIfInBounds 0 .none))).get? b = some o := by
    rw [Heap.get?_update_other _ _ (Ne.symm hb)]; exact e
  rw [Heap.get?_update_other _ _ (Nat.ne_of_gt (Heap.lt_size (Heap.get?_push_of_some _ e0)))]
  exact Heap.get?_push_of_some _ (Heap.get?_push_of_some _ e0)
theorem unpack_hot {t x1 : Addr} {items : Array Value} {Q : List Value → Shared → Prop} (hot : HotX.HotAt A x1 s.heap) (k2 : IsTup s.heap t items)
    (kq : ∀ h', Heap.ExtBut s.heap.objs.size s.heap h' → Q items.toList { s with heap := h' }) : wpAny (model prog w) A (unpackItems (.ref t) items.size none) Q E s := by
  obtain ⟨hh, ox, vx, y1, y2, y3⟩ := hot
  have tl : t ≠ s.heap.objs.size := by
    obtain ⟨o, ho, _⟩ := k2
    exact Nat.ne_of_lt (Heap.lt_size ho)
  have xl : x1 ≠ s.heap.objs.size := Nat.ne_of_lt (Heap.lt_size y1)
  unfold unpackItems
  refine wpAny_bind ?_
  unfold notIterableAtAll
  refine wpAny_bind (wpAny_specialOf k2.typeIs slot_tuple_iter.lookup (wpAny_pure ?_))
  simp only [Bool.false_eq_true, if_false]
  refine wpAny_bind (wpAny_holding (iter_tuple k2 ?_))
  refine wpAny_bind (wpAny_holding (draw_tuple tl items.size 0 _ _ ⟨_, Heap.get?_push_size _ rfl, rfl, rfl⟩ (k2.push _) (by omega) fun h₁ u1 u2 => ?_))
  have al : List.take items.size (List.drop 0 items.toList) = items.toList := by
    rw [List.drop_zero]
    exact List.take_of_length_le (by simp)
  rw [al, if_neg (by simp)]
  have kt : IsTup h₁ t items := (k2.push _).extBut u2.extBut tl
  have yt : h₁.get? x1 = some ox := u2.extBut x1 ox xl (Heap.get?_push_of_some _ y1)
  refine wpAny_bind (wpAny_holding (tup_end_hot (s := { s with heap := h₁ }) ⟨hh, ox, vx, yt, y2, y3⟩ xl u1 kt (by simp) fun h₂ he => ?_))
  simp only [Option.isSome_none, Bool.false_eq_true, if_false]
  exact wpAny_pure (kq h₂ fun b o hb e => he b o hb (u2.extBut b o hb (Heap.get?_push_of_some _ e)))
end
theorem ps_par_hot {X : Cx} {i j : Nat} {x y : Str} {a b : Expr} {ta : TA} {px py pt pos : Pos} {kt k2 pt2} (hot : ∀ (pins : List (Addr × Obj)) (σ : L2.St) (H : Hp) (s : Shared), Inv X pins σ H s → ∃ x1, HotX.HotAt X.A x1 s.heap) (hN : X.N.Nodup) (hi : X.N[i]? = some x) (hj : X.N[j]? = some y) (hij : i ≠ j)
    (hx : X.env.scope.names.lookup x = some .local) (hy : X.env.scope.names.lookup y = some .local) (ha : PA X [a, b] ta)
    (hw : swappedStores [.Tuple [.Name x px, .Name y py] kt pt] (.Tuple [a, b] k2 pt2) X.env = pure (some [x, y]))
    (hs : swapsWithSole [.Tuple [.Name x px, .Name y py] kt pt] (.Tuple [a, b] k2 pt2) pos.line X.env = pure false) :
    PS X (.Assign [.Tuple [.Name x px, .Name y py] kt pt] (.Tuple [a, b] k2 pt2) pos) (tPar i j ta) := by
  refine ⟨fun pk s0 σ H D I0 h0 => ?_⟩
  rw [exec_Assign_arm]
  refine wpAny_bind (wpAny_standAt ?_)
  rw [hs]
  refine wpAny_bind (wpAny_pure ?_)
  rw [if_neg (by decide)]
  refine wpAny_bind (Tuple_ (thn (ha.run _ pk s0 σ H _ I0 h0) fun us s1 ⟨vs, H1, I1, r1, q1⟩ => ?_))
  obtain ⟨v1, v2, e1, q1⟩ := q1
  subst e1
  obtain ⟨z1, z2, rfl, rv, rw'⟩ : ∃ z1 z2, us = [z1, z2] ∧ RelV v1 z1 ∧ RelV v2 z2 := by
    rcases r1 with _ | ⟨p, r2⟩
    rcases r2 with _ | ⟨p', r3⟩
    cases r3
    exact ⟨_, _, rfl, p, p'⟩
  refine wpAny_newObj_type ?_ (by show 2 ≤ sizeLine; decide)
  have J2 : Inv X pk σ H1 { s1 with heap := s1.heap.push { cls := .type "tuple", data := .seq [z1, z2].toArray } } := I1.kept (t' := s1.toks) fun b o e => Heap.get?_push_of_some _ e
  rw [hw]
  refine wpAny_bind (wpAny_pure ?_)
  refine (show wpAny (model X.prog X.w) X.A (do rule "assign.swapped-stores"; let items ← unpackItems (.ref s1.heap.objs.size) 2 none; assignInOrder [fun v => bindName X.env y v, fun v => bindName X.env x v] items.reverse; pure Flow.next) _ _ _ from wpAny_bind (wpAny_rule ?_))
  obtain ⟨x1, ht⟩ := hot pk σ H1 _ J2
  refine wpAny_bind (unpack_hot (items := #[z1, z2]) ht (IsTup.new s1.heap _) fun h' hx' => ?_)
  have J3 := J2.kept (h' := h') (t' := s1.toks) fun b o e => hx' b o (Nat.ne_of_lt (Heap.lt_size e)) e
  refine (show wpAny _ _ (assignInOrder [fun v => bindName X.env y v, fun v => bindName X.env x v] [z2, z1] >>= fun _ => pure Flow.next) _ _ _ from wpAny_bind ?_)
  refine assignInOrder_cons (wpAny_bindName (store_ok J3 hN hj (.inl hy) rw' (fun s2 J4 => ?_) (.inr hy)))
  refine assignInOrder_cons (wpAny_bindName (store_ok J4 hN hi (.inl hx) rv (fun s3 J5 => assignInOrder_nil (wpAny_pure ?_)) (.inr hx)))
  rw [List.set_comm _ _ (Ne.symm hij)] at J5
  exact ⟨_, H1, J5, q1⟩
end CS
namespace PySem
namespace ErAE
open PySem.W PySem.Calls PyProof.Rows PySem.HandSPX
def aeTail : List Value := [.type "ArithmeticError", .type "Exception", .type "BaseException", .type "object"]
def refsAE (l : List Value) : Bool := (l.reverse.take 4 == aeTail.reverse) && ((l.reverse.drop 4).all fun v => match v with | .ref _ => true | _ => false)
theorem refs_split {l : List Value} (e : refsAE l = true) : ∃ cs : List Addr, l = cs.map Value.ref ++ aeTail := by
  unfold refsAE at e
  rw [Bool.and_eq_true, beq_iff_eq, List.all_eq_true] at e
  obtain ⟨e1, e2⟩ := e
  have key : ∀ r : List Value, (∀ v ∈ r, (match v with | .ref _ => true | _ => false) = true) → ∃ cs : List Addr, r = cs.map Value.ref := by
    intro r
    induction r with
    | nil => exact fun _ => ⟨[], rfl⟩
    | cons v r ih =>
      intro h
      obtain ⟨cs, hcs⟩ := ih fun q hq => h q (List.mem_cons_of_mem _ hq)
      have hv := h v List.mem_cons_self
      cases v with
      | ref c => exact ⟨c :: cs, by rw [hcs]; rfl⟩
      | _ => cases hv
  obtain ⟨cs, hcs⟩ := key _ e2
  refine ⟨cs.reverse, ?_⟩
  have h0 : l.reverse = aeTail.reverse ++ cs.map Value.ref := by rw [← e1, ← hcs, List.take_append_drop]
  have h1 := congrArg List.reverse h0
  rw [List.reverse_reverse, List.reverse_append, List.reverse_reverse, ← List.map_reverse] at h1
  exact h1
theorem refs_join (cs : List Addr) : refsAE (cs.map Value.ref ++ aeTail) = true := by
  unfold refsAE
  have h : (cs.map Value.ref ++ aeTail).reverse = aeTail.reverse ++ (cs.map Value.ref).reverse := List.reverse_append
  rw [h, show (4 : Nat) = aeTail.reverse.length from rfl, List.take_left, List.drop_left, beq_self_eq_true, Bool.true_and, List.all_eq_true]
  intro v hv
  rw [List.mem_reverse] at hv
  obtain ⟨c', _, rfl⟩ := List.mem_map.mp hv
  rfl
theorem refs_cons {c : Addr} {l : List Value} (e : refsAE l = true) : refsAE (.ref c :: l) = true := by
  obtain ⟨cs, rfl⟩ := refs_split e
  exact refs_join (c :: cs)
theorem refs_pass (self : Value) {l : List Value} (e : refsAE l = true) : refuseLoop self "__setattr__" l = pure () := by
  obtain ⟨cs, rfl⟩ := refs_split e
  clear e
  induction cs with
  | nil => exact F.store_ArithmeticError.passes self
  | cons c cs ih =>
    rw [List.map_cons, List.cons_append, refuseLoop_ref]
    exact ih
theorem refs_contains (X : String) {l : List Value} (e : refsAE l = true) : l.contains (.type X) = aeTail.contains (.type X) := by
  obtain ⟨cs, rfl⟩ := refs_split e
  clear e
  induction cs with
  | nil => rfl
  | cons c cs ih =>
    rw [List.map_cons, List.cons_append, List.contains_cons, ih]
    rfl
theorem refs_ne {l : List Value} (e : refsAE l = true) : l.isEmpty = false := by
  obtain ⟨cs, rfl⟩ := refs_split e
  cases cs <;> rfl
section
variable {prog : Program} {w : World} {A : Around} {E : Value → Shared → Prop} {R : Result → Shared → Prop} {hp : Heap} {g : Array GenState} {d : Drawn} {t : Nat} {os : OsState}
theorem osa_made {K : Frag} {name : Str} {tk : Tok} {v : Value} {x C : Addr} {fv : Array Value} {cd : ClassData} (inK : K.In hp) (at_x : hp.get? x = some { cls := .ref C, data := .fields fv }) (of_C : clsIn K C = some cd) (line : refsAE cd.mro = true) (dicts : cd.hasDict = true) (unset : findIn K (.ref C) name = some none)
    (ends : ∀ h' tk' dx, (∀ b o, b ≠ x → hp.get? b = some o → h'.get? b = some o) → hp.objs.size ≤ dx → dx ≠ x → h'.get? x = some { cls := .ref C, dict := some dx, data := .fields fv } → h'.Ns1 dx (fun y => if y = name then some v else none) → R (.ok (.ret .none)) ⟨h', g, d, tk', os⟩) :
    codeAny (model prog w) A (.call (.builtin "object.__setattr__") ⟨[.ref x, .str name tk, v], []⟩) R ⟨hp, g, d, t, os⟩ := by
  have me : InstAt hp x { cls := .ref C, data := .fields fv } C none := ⟨at_x, rfl, rfl, trivial⟩
  have facts := F.store_object
  have has : cd.mro.contains (.type "object") = true := (refs_contains "object" line).trans (by decide +kernel)
  have fresh : x ≠ hp.objs.size := Nat.ne_of_lt (Heap.lt_size at_x)
  have below : Looks (model prog w) hp (isInstance (.ref x) (.type "object")) true := me.type.andThen (looks_mroIn inK (by unfold mroIn; rw [of_C, Option.bind_some, if_neg (by rw [refs_ne line]; decide), has]))
  refine codeAny_call_builtin facts.slot.plain facts.entry (@check_slot (model prog w) _ _ ⟨hp, g, d, t, os⟩ "object.__setattr__" "object" "__setattr__" (.ref x) [.str name tk, v] [] _ facts.kind facts.split below (facts.args (.ref x) (.str name tk) v) ?_)
  have line_at : Looks (model prog w) hp (mroOf (.ref C)) cd.mro := (looks_clsIn inK of_C).andThen .now
  have no_taker : Looks (model prog w) hp (Builtin.ObjectAttr.storeTaker? none) none := .now
  have data_at : Looks (model prog w) hp (classData C) cd := looks_clsIn inK of_C
  rw [osa_eq, refuse_eq]
  refine wpAny_bind (wpAny_bind (me.type.at (wpAny_bind (line_at.at ?_))))
  rw [refs_pass _ line]
  refine wpAny_pure (wpAny_bind (me.type.at (wpAny_bind ((looks_findIn inK unset).at (wpAny_bind (no_taker.at ?_))))))
  refine (show wpAny _ _ (Builtin.ObjectAttr.storeInOwnDict (.ref x) (.ref C) (.str name tk) name v false) _ _ _ from ?_)
  obtain ⟨c1, c2, c3, c4, c5, c6, c7, c8, c9, c10, c11⟩ := cd
  dsimp only at dicts
  subst dicts
  unfold Builtin.ObjectAttr.storeInOwnDict Builtin.ObjectAttr.ownDictForStores
  repeat (first | with_reducible refine store_in_new ?_ ?_ | with_reducible refine wpAny_loadPart_at at_x ?_ | with_reducible refine data_at.at ?_ | wp_step)
  · exact ⟨_, #[], _, (Heap.get?_update_ne _ _ _ _ fresh.symm).trans (Heap.get?_push_at rfl rfl), rfl, fun e he => absurd he (by simp), fun _ => rfl⟩
  · intro h' tk' ns' same
    have still : (hp.push { cls := .type "dict", data := .dict #[] }).get? x = some { cls := .ref C, data := .fields fv } := Heap.get?_push_of_some _ at_x
    refine ends h' tk' hp.objs.size (fun b o ne old => ?_) (Nat.le_refl _) fresh.symm ?_ ns'
    · exact (same.2 b (Nat.ne_of_lt (Heap.lt_size old))).trans ((Heap.get?_update_ne _ _ _ _ ne).trans (Heap.get?_push_of_some _ old))
    · exact (same.2 x fresh).trans (Heap.get?_update_self _ still rfl)
end
end ErAE
end PySem
namespace CS
open PySem PySem.Spec PyProof.Rows L2
theorem suite_pair_value {A : AD} {X : Cx} {a : Addr} {oe : Obj} {cls : Value} {d : Option Addr} {pn : List (Addr × Obj)} {k0 n i j : Nat} {C fI : Addr} {x0 qn nm s x y : Str} {px py pt p1 p2 p3 pos : Pos} {kt k2 pt2} {j1 : Nat}
    (hca : A.ca k0 = some C) (T : PySem.Er_valueX.LowTxt X.K X.mg x0 qn C fI) (hz : L2N.Zn cls d oe) (hf : ∃ vs, oe.data = .fields vs) (hN : X.N.Nodup)
    (hi : X.N[i]? = some x) (hj : X.N[j]? = some y) (hn : X.N[n]? = some nm) (hij : i ≠ j) (hx : X.env.scope.names.lookup x = some .local) (hy : X.env.scope.names.lookup y = some .local)
    (hv : Vis X.env.scope nm) (hd : (nm == ("__debug__" : Str)) = false) (hcd : (nm == ("__classdict__" : Str)) = false)
    (hw : swappedStores [.Tuple [.Name x px, .Name y py] kt pt] (.Tuple [.Constant (.str s) j1 p1, .Attribute (.Name nm p2) "value" p3] k2 pt2) X.env = pure (some [x, y]))
    (hs : swapsWithSole [.Tuple [.Name x px, .Name y py] kt pt] (.Tuple [.Constant (.str s) j1 p1, .Attribute (.Name nm p2) "value" p3] k2 pt2) pos.line X.env = pure false) :
    PSs (X.suite a ((a, oe) :: pn)) [.Assign [.Tuple [.Name x px, .Name y py] kt pt] (.Tuple [.Constant (.str s) j1 p1, .Attribute (.Name nm p2) "value" p3] k2 pt2) pos] (tSx (gc A X) (fPair k0 s "value" i j) n a cls d) := by
  have var : PE (X.suite a ((a, oe) :: pn)) (.Name nm p2) (tVar n) := pe_var (X := X.suite a ((a, oe) :: pn)) hn hv hd hcd
  have hot : ∀ (pins : List (Addr × Obj)) (σ : L2.St) (H : Hp) (s : Shared), Inv (X.suite a ((a, oe) :: pn)) pins σ H s → ∃ x1, HotX.HotAt (X.suite a ((a, oe) :: pn)).A x1 s.heap := fun pins σ H s I => by
    obtain ⟨vs, dat⟩ := hf
    exact ⟨a, rfl, oe, vs, (I.pin (a, oe) (List.mem_append_left _ List.mem_cons_self)).1, dat, hz.2.2 vs dat⟩
  refine ⟨fun pk s0 σ H D I w => ?_⟩
  obtain ⟨m, ρ, st, x', rel, env, hσ, rx, k⟩ := w
  have len : n < σ.length := by
    rw [I.len]
    exact (List.getElem?_eq_some_iff.mp hn).1
  have hσ := hσ len
  unfold fPair at k
  split at k
  · rename_i kx h v
    split at k
    · rename_i hh
      obtain ⟨rfl, rfl⟩ := hh
      obtain ⟨C', hC', rfl, z⟩ := id rx
      have eC : C' = C := by
        have : A.ca kx = some C' := hC'
        rw [hca] at this
        exact (Option.some.inj this).symm
      subst eC
      rcases z with z | ⟨dd, gs, rfl, hd', rf⟩
      · cases z
      · cases rf with
        | @cons _ q _ qs hq hr =>
        cases hr
        obtain ⟨e1, hu⟩ := hq
        obtain ⟨g', u⟩ := q
        dsimp only at e1 hu
        subst e1
        refine (pss_one (ps_par_hot (X := X.suite a ((a, oe) :: pn)) hot hN hi hj hij hx hy (pa_cons pe_str (pa_cons (pe_by_value T hz hf var) pa_nil)) hw hs)).run pk s0 σ H D I ?_
        refine ⟨_, hσ, rfl, rfl, dd, u, rfl, hd', ?_⟩
        exact ⟨_, _, rfl, k m H _ .refl rel ((env.set (.str s)).set hu)⟩
    · exact k.elim
  · exact k.elim
end CS
namespace PySem
namespace Er_indexX
open PySem.W PySem.Calls PyProof.Rows PySem.HandSPX
def iA (p1 p2 : Pos) : Arguments := { posonlyargs := [], args := [{ arg := "self", annotation := none, pos := p1 }, { arg := "index", annotation := none, pos := p2 }], vararg := none, kwonlyargs := [], kw_defaults := [], kwarg := none, defaults := [] }
def iB (q1 q2 q3 q4 : Pos) : List Stmt := [.Assign [.Attribute (.Name "self" q1) "index" q2] (.Name "index" q3) q4]
def iS : Scope := { kind := .function, names := [(PySem.Str.ofString "self", .local), (PySem.Str.ofString "index", .local)], isGenerator := false, isCoroutine := false, more := [] }
structure LowTxt (K : Frag) (mg : Str → Option Value) (x qn : Str) (C fI : Addr) : Prop where
  gC : mg x = some (.ref C)
  cls : ∃ nm q N bs bm sn sub ab col dd k0 k1 k2 k3 k5, K.lookup C = some (excClassObj nm q C N bs bm true sn sub ab col dd k0 k1 k2 k3 k5 "ValueError.__new__") ∧ refsVE bm = true
  sa : findIn K (.ref C) "__setattr__" = some (some (.builtin "object.__setattr__"))
  ga : findIn K (.ref C) "__getattribute__" = some (some (.builtin "BaseException.__getattribute__"))
  gg : findIn K (.ref C) "__getattr__" = some none
  noN : findIn K (.ref C) "index" = some none
  iC : findIn K (.ref C) "__init__" = some (some (.ref fI))
  tC : typeIn K (.ref fI) = some (.type "function")
  kC : keepIn K (.ref C) = true
  exC : subIn K (.ref C) (.type "BaseException") = some true
  tyC : typeIn K (.ref C) = some (.type "type")
  hdC : hasDictIn K C = true
  fn : ∃ (oc : Value) (od : Option Addr) (doc pm : Value) (an : Option Addr) (cdv ct : Value) (osl : Array (Option Value)) (p1 p2 q1 q2 q3 q4 : Pos),
    K.lookup fI = some ⟨oc, od, .func (fnOf "__init__" qn (iA p1 p2) (iB q1 q2 q3 q4) iS .none .none doc pm an cdv ct), osl⟩ ∧ codeIn K cdv qn = true
theorem one_size (v : Value) : [v].length ≤ sizeLine := by
  rw [sizeLine_eq]
  exact (by decide : 1 ≤ 16777216)
theorem kept_but {K : Frag} {h h' : Heap} {x : Addr} (X : K.In h) (hx : K.lookup x = none) (k : ∀ b o, b ≠ x → h.get? b = some o → h'.get? b = some o) : K.In h' := fun a o e =>
  k a o (fun z => by rw [z, hx] at e; cases e) (X a o e)
theorem ldC {M : Model} {s : Shared} {name : Str} {scope : Scope} {L a : Addr} {cd : Value} {m : Str → Option Value} {x : Str} {pos : Pos} {v : Value} {Q : Value → Shared → Prop} {A : Around} {E : Value → Shared → Prop} (hn : s.heap.Ns L m) (hv : m x = some v) (h : Q v s)
    (hk : scope.kind = .function := by rfl) (hl : (envOfC name scope L a cd).kindOf x = some .local := by rfl) (hd : (x == ("__debug__" : Str)) = false := by decide) :
    wpAny M A (eval (.Name x pos) (envOfC name scope L a cd)) Q E s := wpAny_Name (wpAny_loadName_local hk hl hn hv h) hd
structure InitEnd (h h' : Heap) (x C dx t1 : Addr) (v : Value) : Prop where
  keep : ∀ b o, b ≠ x → h.get? b = some o → h'.get? b = some o
  obj : h'.get? x = some { cls := .ref C, dict := some dx, data := .fields #[.ref t1, .none, .none, .none, .bool false, .none] }
  dbig : h.objs.size ≤ dx
  dne : dx ≠ x
  ns : h'.Ns1 dx (fun y => if y = "index" then some v else none)
structure OwnMade (h h' : Heap) (e C d : Addr) (v : Value) : Prop where
  keep : ∀ b o, h.get? b = some o → h'.get? b = some o
  new : h.objs.size ≤ e
  obj : ∃ oe vs, h'.get? e = some oe ∧ oe.cls = .ref C ∧ oe.dict = some d ∧ oe.data = .fields vs ∧ vs[1]? = some .none ∧ vs[2]? = some .none
  dbig : h.objs.size ≤ d
  dne : d ≠ e
  ns : h'.Ns1 d (fun y => if y = "index" then some v else none)
section
variable {prog : Program} {w : World} {A : Around} {E : Value → Shared → Prop} {R : Result → Shared → Prop} {s : Shared} {K : Frag} {mg : Str → Option Value} {x0 qn : Str} {C fI : Addr}
theorem _index_init (T : LowTxt K mg x0 qn C fI) {x t0 : Addr} {v : Value} (X : K.In s.heap) (hlim : s.heap.NoLimit) (hx : s.heap.get? x = some (excO C t0)) (hnx : K.lookup x = none) (hroom : A.depth < recursionLimit)
    (hq : ∀ h' tk dx, InitEnd s.heap h' x C dx t0 v → R (.ok (.ret .none)) { s with heap := h', toks := tk }) :
    codeAny (model prog w) A (.call (.ref fI) ⟨[.ref x, v], []⟩) R s := by
  obtain ⟨oc, od, doc, pm, an, cdv, ct, osl, p1, p2, q1, q2, q3, q4, ho, hcd⟩ := T.fn
  obtain ⟨nm, q, N, bs, bm, sn, sub, ab, col, dd, k0, k1, k2, k3, k5, hC, hbm⟩ := T.cls
  have hcl : clsIn K C = some { name := nm, bases := bs, mro := .ref C :: bm, ns := N, qualname := q, hasDict := true, slotNames := sn, subclasses := sub, abstract := ab, collection := col, hasDel := false } := by unfold clsIn; rw [hC] <;> rfl
  refine Att.call_fn (binds := [("self", .ref x), ("index", v)]) X hlim ho hcd hroom (BindsTo.of_eq (by first | rfl | with_unfolding_all rfl)) (by first | rfl | decide | with_unfolding_all rfl) (fun s₁ IC => ?_) rfl rfl rfl
  obtain ⟨h₁, tk₁, rfl⟩ := IC.toInCall.same
  have k : ∀ b o, s.heap.get? b = some o → h₁.get? b = some o := IC.toInCall.keep
  have hn := IC.toInCall.ns
  have hxL : s.heap.objs.size ≠ x := Nat.ne_of_gt (Heap.lt_size hx)
  have X₁ : K.In h₁ := X.keeps k
  have hx₁ := k _ _ hx
  -- self.by = by
  show wpAny _ _ (execs _ _) _ _ _
  refine wpAny_execs_cons (plainObj_wpAny_Assign_Attribute ?_)
  refine ldC (v := v) hn (by first | rfl | with_unfolding_all rfl | kernel_rfl) (ldC (v := .ref x) hn (by first | rfl | with_unfolding_all rfl | kernel_rfl) ?_)
  refine set_plain X₁ (ox := excO C t0) (od := none) ⟨hx₁, rfl, rfl, trivial⟩ T.sa ?_
  refine exc_osa X₁ hx₁ hcl (show refsVE (.ref C :: bm) = true from hbm) rfl T.noN (fun h₃ tk₃ dx k₃ dn dne hx₃ hn₃ => ?_)
  show wpAny _ _ (execs _ _) _ _ _
  have z : s.heap.objs.size < h₁.objs.size := hn.lt
  exact wpAny_execs_nil (hq h₃ tk₃ dx ⟨fun b o hb e => k₃ b o hb (k b o e), hx₃, Nat.le_of_lt (Nat.lt_of_lt_of_le z dn), dne, hn₃⟩)
theorem _index_made (T : LowTxt K mg x0 qn C fI) {v : Value} (X : K.In s.heap) (hlim : s.heap.NoLimit) (hroom : A.depth + 1 < recursionLimit)
    (hq : ∀ h' tk e d, OwnMade s.heap h' e C d v → R (.ok (.ret (.ref e))) { s with heap := h', toks := tk }) :
    codeAny (model prog w) A (.call (.ref C) ⟨[v], []⟩) R s := by
  obtain ⟨nm, q, N, bs, bm, sn, sub, ab, col, dd, k0, k1, k2, k3, k5, hC, hbm⟩ := T.cls
  obtain ⟨hp, g, dr, tk, os⟩ := s
  have k : ∀ b o, hp.get? b = some o → ((hp.push (kdv_tup [v])).push (excO C hp.objs.size)).get? b = some o := fun b o e => Heap.get?_push_of_some _ (Heap.get?_push_of_some _ e)
  have hget : ((hp.push (kdv_tup [v])).push (excO C hp.objs.size)).get? (hp.objs.size + 1) = some (excO C hp.objs.size) := by heap_get
  have hnx : K.lookup (hp.objs.size + 1) = none := by
    cases e : K.lookup (hp.objs.size + 1) with
    | none => rfl
    | some o =>
      have z : hp.get? (hp.objs.size + 1) = some o := X _ _ e
      exact absurd (Nat.lt_of_succ_lt (Heap.lt_size z)) (Nat.lt_irrefl _)
  refine call_own F.excBase_ValueError (fun X => refsVE_contains X bm hbm) (X _ _ hC) (looks_findIn X T.iC) (fun self => bind_fn X self T.tC) (one_size v) ?_
  refine _index_init (s := ⟨(hp.push (kdv_tup [v])).push (excO C hp.objs.size), g, dr, tk, os⟩) T (X.keeps k) (hlim.keeps k) hget hnx ?_ fun h' tk' dx ⟨k', hx, dn, dne, hns⟩ => ?_
  · show A.depth + 1 < recursionLimit
    exact hroom
  · have old : ∀ b o, hp.get? b = some o → h'.get? b = some o := fun b o e => k' b o (Nat.ne_of_lt (Nat.lt_succ_of_lt (Heap.lt_size e))) (k b o e)
    have z : hp.objs.size + 1 + 1 ≤ dx := by
      first
        | (simpa only [Heap.size_push] using dn)
        | exact dn
        | (have q := dn; rw [Heap.size_push, Heap.size_push] at q; exact q)
    exact ⟨rfl, hq h' tk' (hp.objs.size + 1) dx ⟨old, Nat.le_succ _, ⟨_, _, hx, rfl, rfl, rfl, rfl, rfl⟩, Nat.le_trans (Nat.le_trans (Nat.le_succ _) (Nat.le_succ _)) z, dne, hns⟩⟩
end
end Er_indexX
end PySem
namespace L2
open PySem PySem.Spec PyProof.Rows
theorem relO__index {v : V} {v' : Value} (r : RelV v v') (f : Str) : RelO (List.lookup f [(("index" : Str), v)]) (if f = "index" then some v' else none) := by
  by_cases hw : f = "index"
  · subst hw
    rw [if_pos rfl]
    have q : List.lookup ("index" : Str) [(("index" : Str), v)] = some v := by simp [List.lookup]
    rw [q]
    exact r
  · rw [if_neg hw]
    have qw : (f == ("index" : Str)) = false := by simpa using hw
    have q2 : List.lookup f [(("index" : Str), v)] = none := by simp [List.lookup, qw]
    rw [q2]
    trivial
section
variable {X : Cx} {x0 qn : Str} {C fI : Addr}
def tMk_index (C : Addr) (ta : TA) : St → Hp → XK → Prop := fun σ H Q => ta σ H fun vs H1 => ∃ v, vs = [v] ∧ ∀ d, H1 d = none → Q (.ref C) (some d) (upd H1 d (.xd [(("index" : Str), v)]))
theorem pmk__index {a : Expr} {ta : TA} {p pos : Pos} {k : Nat} (T : PySem.Er_indexX.LowTxt X.K X.mg x0 qn C fI) (hr : Room k X.A) (ha : PA X [a] ta) (hg : Gl X x0) (hdb : (x0 == ("__debug__" : Str)) = false)
    (he : starEach (a :: []) X.env = (false, eval a X.env) :: starEach [] X.env := by rfl) (hpl : (backTo pos (starEach [] X.env)).any (·.1) = false := by rfl) :
    L2N.PMk X (.Call (.Name x0 p) [a] [] pos) (tMk_index C ta) := by
  intro pins s σ H Q I h
  refine wpAny_Call_Name_kw (ld_glob I hg T.gC ?_ hdb)
  refine PySem.W.callWith_K (h₀ := X.base) I.ok.mod.kin T.kC (thn (ha.run pos pins s σ H _ I h) fun us s1 hh => ?_) he hpl
  obtain ⟨vs, H1, I1, r1, v, ev, q1⟩ := hh
  subst ev
  refine ⟨I1.kIn, ?_⟩
  cases r1 with
  | cons rv rn =>
    rename_i v' us'
    cases rn
    show wpAny _ _ (call (.ref C) [v']) _ _ _
    have hlim := I1.nolimit
    obtain ⟨hp, g, dr, tk, os⟩ := s1
    refine wpAny_call (PySem.Er_indexX._index_made T I1.kIn hlim (by have := hr.dp; omega) fun h' tk' e d M => ?_)
    show L2N.MkP X pins σ Q (.ref e) ⟨h', g, dr, tk', os⟩
    obtain ⟨oe, fv, hoe, hc, hd, hdat, h1, h2⟩ := M.obj
    have hns := M.ns
    obtain ⟨G', g1, g2⟩ := restrict h' fun b => decide (b ≠ e)
    have gk : ∀ b, b ≠ e → G'.get? b = h'.get? b := fun b hb => g1 b (decide_eq_true hb)
    have ge : G'.get? e = none := g2 e (by simp)
    have old : ∀ b o, hp.get? b = some o → G'.get? b = some o := fun b o q => (gk b (Nat.ne_of_lt (Nat.lt_of_lt_of_le (Heap.lt_size q) M.new))).trans (M.keep b o q)
    have ob : ObjOk X.prog X.w (upd H1 d (.xd [(("index" : Str), v)])) G' d (.xd [(("index" : Str), v)]) :=
      ⟨_, hns.at (fun o q => (gk d M.dne).trans q), fun f => relO__index rv f⟩
    have J : Inv X pins σ (upd H1 d (.xd [(("index" : Str), v)])) ⟨G', g, dr, tk', os⟩ := I1.laid (t' := tk') old M.dbig ob
    refine ⟨e, oe, fv, ⟨G', g, dr, tk', os⟩, _, .ref C, some d, rfl, J, fun b o q => ?_, ge, hoe, ⟨hc, hd, fun ws ew => by rw [hdat] at ew; cases ew; exact h2⟩, hdat, h1, ?_, rfl, I1.bare, raises_own T.exC T.tyC, q1 d (I1.hok.fresh M.dbig)⟩
    · by_cases hb : b = e
      · have q' : G'.get? b = some o := q
        rw [hb, ge] at q'; cases q'
      · exact (gk b hb).symm.trans q
    · rw [upd_ne (Ne.symm M.dne)]
      exact I1.hok.fresh M.new
def tRaise_index (C : Addr) (W : WX) (ta : TA) : TS := fun _ σ H => tMk_index C ta σ H fun cls d H' => W cls d σ H'
theorem ps_raise_index {a : Expr} {ta : TA} {W : WX} {p pos pos2 : Pos} {k : Nat} (hc : X.calm = true) (T : PySem.Er_indexX.LowTxt X.K X.mg x0 qn C fI) (hr : Room k X.A) (tk : L2N.Takes X W) (ha : PA X [a] ta) (hg : Gl X x0) (hdb : (x0 == ("__debug__" : Str)) = false)
    (he : starEach (a :: []) X.env = (false, eval a X.env) :: starEach [] X.env := by rfl) (hpl : (backTo pos (starEach [] X.env)).any (·.1) = false := by rfl) :
    PS X (.Raise (some (.Call (.Name x0 p) [a] [] pos)) none pos2) (tRaise_index C W ta) := L2N.ps_raise hc tk (pmk__index T hr ha hg hdb he hpl)
def tBy_index (C : Addr) (a : Addr) (cls : Value) (d : Option Addr) (te : TE) : TE := fun σ H Q => te σ H fun x H1 => x = .ref a ∧ cls = .ref C ∧ ∃ (dd : Addr) (v : V), d = some dd ∧ H1 dd = some (.xd [(("index" : Str), v)]) ∧ Q v H1
theorem pe_by_index {a : Addr} {oe : Obj} {cls : Value} {d : Option Addr} {pn : List (Addr × Obj)} {e : Expr} {te : TE} {pos : Pos} (T : PySem.Er_indexX.LowTxt X.K X.mg x0 qn C fI) (hz : L2N.Zn cls d oe) (hf : ∃ vs, oe.data = .fields vs) (he : PE (X.suite a ((a, oe) :: pn)) e te)
    (hb : attributeBase e "index" X.env (eval e X.env) = eval e X.env := by rfl) :
    PE (X.suite a ((a, oe) :: pn)) (.Attribute e "index" pos) (tBy_index C a cls d te) := by
  refine ⟨fun pins s σ H Q I h => ?_⟩
  refine attr_of hb (thn (he.run pins s σ H _ I h) fun u s1 hh => ?_)
  obtain ⟨x, H1, I1, rx, ex, ec, dd, v, ed, ea, q⟩ := hh
  subst ex
  obtain rfl : u = Value.ref a := rx
  subst ec
  subst ed
  obtain ⟨ha, _⟩ := I1.pin (a, oe) (List.mem_append_left _ List.mem_cons_self)
  obtain ⟨vs, hd⟩ := hf
  have hx : ObjOk X.prog X.w H1 s1.heap dd (.xd [(("index" : Str), v)]) := I1.hok dd _ ea
  obtain ⟨mA, hns, hr⟩ := hx
  obtain ⟨od, ho, hl⟩ := lookIn_ns hns
  have l : List.lookup ("index" : Str) [(("index" : Str), v)] = some v := by simp [List.lookup]
  obtain ⟨u, hu, ru⟩ := RelO.some_of (v := v) (o := mA "index") (by rw [← l]; exact hr "index")
  have J : PySem.W.InstAt s1.heap a oe C (some od) := ⟨ha, hz.1, by unfold PySem.W.notCls; rw [hd] <;> rfl, by rw [hz.2.1]; exact ho⟩
  exact HandSPX.exc_get I1.kIn J T.ga T.gg T.exC (PySem.W.findObj_own T.hdC T.noN rfl (by rw [hl, hu])) (handed_of ru) ⟨v, H1, I1.tok _, ru, q⟩
end
end L2

namespace CS
open PySem PySem.Spec PyProof.Rows L2
section
variable {A : AD} {X : Cx} {W : WX}
theorem pms_rs_index {k : Nat} {C fI : Addr} {x0 qn : Str} {a : Expr} {fe : DE} {p pos pos2 : Pos} {l : Nat} (hca : A.ca k = some C) (hc : X.calm = true) (tk : L2N.Takes X W) (T : PySem.Er_indexX.LowTxt X.K X.mg x0 qn C fI) (hr : Room l X.A) (he : PM A X W a fe) (hg : Gl X x0) (hdb : (x0 == ("__debug__" : Str)) = false)
    (hs : starEach (a :: []) X.env = (false, eval a X.env) :: starEach [] X.env) (hpl : (backTo pos (starEach [] X.env)).any (·.1) = false) : PMS A X W (.Raise (some (.Call (.Name x0 p) [a] [] pos)) none pos2) (sRsA k "index" fe) := by
  refine (ps_raise_index hc T hr tk (pa_cons he pa_nil hs) hg hdb hs hpl).imp fun D σ H ⟨m, ρ, st, r, v, h⟩ => ?_
  refine ⟨m, ρ, st, r, v, (SRun.sb h v).imp fun x st1 m1 H1 r1 e1 k1 u hu => ?_⟩
  refine ⟨u, rfl, fun d hd => ?_⟩
  have e2 : Ext (gc A X) m1 H1 m1 (upd H1 d (.xd [(("index" : Str), u)])) := ext_new hd
  exact k1 m1 _ σ (.ref C) (some d) e2 (r1.same (upd_keeps hd)) ((v.mono e1).mono e2) ⟨C, hca, rfl, .inr ⟨d, _, rfl, upd_same, .cons ⟨rfl, hu.mono e2⟩ .nil⟩⟩
end
theorem suite_ret_index {A : AD} {X : Cx} {a : Addr} {oe : Obj} {cls : Value} {d : Option Addr} {pn : List (Addr × Obj)} {k0 i : Nat} {C fI : Addr} {x0 qn n s cn1 cn2 : Str} {c1 c2 : V} {cv1 cv2 : Value} {p1 p2 p3 p4 p5 p6 p7 p8 p9 p10 p11 p12 p13 p14 : Pos} {j1 : Nat}
    (hca : A.ca k0 = some C) (T : PySem.Er_indexX.LowTxt X.K X.mg x0 qn C fI) (E : ExcD X.K C) (hz : L2N.Zn cls d oe) (hf : ∃ vs, oe.data = .fields vs)
    (hi : X.N[i]? = some n) (hv : Vis X.env.scope n) (hd : (n == ("__debug__" : Str)) = false) (hcd : (n == ("__classdict__" : Str)) = false)
    (hc1 : PE (X.suite a ((a, oe) :: pn)) (.Name cn1 p1) (tC c1)) (hc2 : PE (X.suite a ((a, oe) :: pn)) (.Name cn2 p2) (tC c2)) (h1 : ∀ u, RelV c1 u → u = cv1) (h2 : ∀ u, RelV c2 u → u = cv2)
    (k1 : PySem.W.kitOne X.K (.ref C) cv1 = some true) (k2 : PySem.W.kitOne X.K (.ref C) cv2 = some true) (hb : X.mg "isinstance" = none) (hg : Gl X "isinstance") :
    PSs (X.suite a ((a, oe) :: pn)) [.Return (some (.List [.Constant (.str s) j1 p3, .Attribute (.Name n p4) "index" p5, .BoolOp .And [.Call (.Name "isinstance" p6) [.Name n p7, .Name cn1 p1] [] p8, .Call (.Name "isinstance" p9) [.Name n p10, .Name cn2 p2] [] p11] p12] p13)) p14] (tSx (gc A X) (fRet k0 s "index") i a cls d) := by
  have var : ∀ q : Pos, PE (X.suite a ((a, oe) :: pn)) (.Name n q) (tVar i) := fun q => pe_var (X := X.suite a ((a, oe) :: pn)) hi hv hd hcd
  refine ⟨fun pk s0 σ H D I w => ?_⟩
  obtain ⟨m, ρ, st, x, rel, env, hσ, rx, k⟩ := w
  have len : i < σ.length := by
    rw [I.len]
    exact (List.getElem?_eq_some_iff.mp hi).1
  have hσ := hσ len
  unfold fRet at k
  split at k
  · rename_i kx h v
    split at k
    · rename_i hh
      obtain ⟨rfl, rfl⟩ := hh
      obtain ⟨C', hC', rfl, z⟩ := id rx
      have eC : C' = C := by
        have : A.ca kx = some C' := hC'
        rw [hca] at this
        exact (Option.some.inj this).symm
      subst eC
      rcases z with z | ⟨dd, gs, rfl, hd', rf⟩
      · cases z
      · cases rf with
        | @cons _ q _ qs hq hr =>
        cases hr
        obtain ⟨e1, hu⟩ := hq
        obtain ⟨g', u⟩ := q
        dsimp only at e1 hu
        subst e1
        have is1 := fun q r => pe_callB (X := X.suite a ((a, oe) :: pn)) (p := q) (pos := r) (call_isD E hz hf) hg hb (by rfl) (pa_cons (var p7) (pa_cons hc1 pa_nil))
        have is2 := fun q r => pe_callB (X := X.suite a ((a, oe) :: pn)) (p := q) (pos := r) (call_isD E hz hf) hg hb (by rfl) (pa_cons (var p10) (pa_cons hc2 pa_nil))
        refine (pss_one (ps_ret (pe_lst (pa_cons pe_str (pa_cons (pe_by_index T hz hf (var p4)) (pa_cons (pe_and (is1 p6 p8) (pe_one (is2 p9 p11))) pa_nil)))))).run pk s0 σ H D I ?_
        refine ⟨_, hσ, rfl, rfl, dd, u, rfl, hd', ?_⟩
        refine ⟨_, hσ, c1, cv1, true, _, rfl, h1, k1, hd', true, rfl, ?_⟩
        refine ⟨_, hσ, c2, cv2, true, _, rfl, h2, k2, hd', ?_⟩
        refine ⟨(by show 3 ≤ sizeLine; decide), fun p hp => ?_⟩
        obtain ⟨r2, e2⟩ := rel.grow (o := .lst [.str s, v, .bl true]) hp (upd_keeps hp) ⟨_, upd_same, .cons (.str s) (.cons (hu.mono (Ext.grow hp (upd_keeps hp))) (.cons (.bl true) .nil))⟩
        exact k _ _ _ e2 r2 (.ref (by rw [← rel.len]; simp))
    · exact k.elim
  · exact k.elim
theorem suite_pair_index {A : AD} {X : Cx} {a : Addr} {oe : Obj} {cls : Value} {d : Option Addr} {pn : List (Addr × Obj)} {k0 n i j : Nat} {C fI : Addr} {x0 qn nm s x y : Str} {px py pt p1 p2 p3 pos : Pos} {kt k2 pt2} {j1 : Nat}
    (hca : A.ca k0 = some C) (T : PySem.Er_indexX.LowTxt X.K X.mg x0 qn C fI) (hz : L2N.Zn cls d oe) (hf : ∃ vs, oe.data = .fields vs) (hN : X.N.Nodup)
    (hi : X.N[i]? = some x) (hj : X.N[j]? = some y) (hn : X.N[n]? = some nm) (hij : i ≠ j) (hx : X.env.scope.names.lookup x = some .local) (hy : X.env.scope.names.lookup y = some .local)
    (hv : Vis X.env.scope nm) (hd : (nm == ("__debug__" : Str)) = false) (hcd : (nm == ("__classdict__" : Str)) = false)
    (hw : swappedStores [.Tuple [.Name x px, .Name y py] kt pt] (.Tuple [.Constant (.str s) j1 p1, .Attribute (.Name nm p2) "index" p3] k2 pt2) X.env = pure (some [x, y]))
    (hs : swapsWithSole [.Tuple [.Name x px, .Name y py] kt pt] (.Tuple [.Constant (.str s) j1 p1, .Attribute (.Name nm p2) "index" p3] k2 pt2) pos.line X.env = pure false) :
    PSs (X.suite a ((a, oe) :: pn)) [.Assign [.Tuple [.Name x px, .Name y py] kt pt] (.Tuple [.Constant (.str s) j1 p1, .Attribute (.Name nm p2) "index" p3] k2 pt2) pos] (tSx (gc A X) (fPair k0 s "index" i j) n a cls d) := by
  have var : PE (X.suite a ((a, oe) :: pn)) (.Name nm p2) (tVar n) := pe_var (X := X.suite a ((a, oe) :: pn)) hn hv hd hcd
  have hot : ∀ (pins : List (Addr × Obj)) (σ : L2.St) (H : Hp) (s : Shared), Inv (X.suite a ((a, oe) :: pn)) pins σ H s → ∃ x1, HotX.HotAt (X.suite a ((a, oe) :: pn)).A x1 s.heap := fun pins σ H s I => by
    obtain ⟨vs, dat⟩ := hf
    exact ⟨a, rfl, oe, vs, (I.pin (a, oe) (List.mem_append_left _ List.mem_cons_self)).1, dat, hz.2.2 vs dat⟩
  refine ⟨fun pk s0 σ H D I w => ?_⟩
  obtain ⟨m, ρ, st, x', rel, env, hσ, rx, k⟩ := w
  have len : n < σ.length := by
    rw [I.len]
    exact (List.getElem?_eq_some_iff.mp hn).1
  have hσ := hσ len
  unfold fPair at k
  split at k
  · rename_i kx h v
    split at k
    · rename_i hh
      obtain ⟨rfl, rfl⟩ := hh
      obtain ⟨C', hC', rfl, z⟩ := id rx
      have eC : C' = C := by
        have : A.ca kx = some C' := hC'
        rw [hca] at this
        exact (Option.some.inj this).symm
      subst eC
      rcases z with z | ⟨dd, gs, rfl, hd', rf⟩
      · cases z
      · cases rf with
        | @cons _ q _ qs hq hr =>
        cases hr
        obtain ⟨e1, hu⟩ := hq
        obtain ⟨g', u⟩ := q
        dsimp only at e1 hu
        subst e1
        refine (pss_one (ps_par_hot (X := X.suite a ((a, oe) :: pn)) hot hN hi hj hij hx hy (pa_cons pe_str (pa_cons (pe_by_index T hz hf var) pa_nil)) hw hs)).run pk s0 σ H D I ?_
        refine ⟨_, hσ, rfl, rfl, dd, u, rfl, hd', ?_⟩
        exact ⟨_, _, rfl, k m H _ .refl rel ((env.set (.str s)).set hu)⟩
    · exact k.elim
  · exact k.elim
end CS
namespace PySem
namespace Er_limitX
open PySem.W PySem.Calls PyProof.Rows PySem.HandSPX
def iA (p1 p2 : Pos) : Arguments := { posonlyargs := [], args := [{ arg := "self", annotation := none, pos := p1 }, { arg := "limit", annotation := none, pos := p2 }], vararg := none, kwonlyargs := [], kw_defaults := [], kwarg := none, defaults := [] }
def iB (q1 q2 q3 q4 : Pos) : List Stmt := [.Assign [.Attribute (.Name "self" q1) "limit" q2] (.Name "limit" q3) q4]
def iS : Scope := { kind := .function, names := [(PySem.Str.ofString "self", .local), (PySem.Str.ofString "limit", .local)], isGenerator := false, isCoroutine := false, more := [] }
structure LowTxt (K : Frag) (mg : Str → Option Value) (x qn : Str) (C fI : Addr) : Prop where
  gC : mg x = some (.ref C)
  cls : ∃ nm q N bs bm sn sub ab col dd k0 k1 k2 k3 k5, K.lookup C = some (excClassObj nm q C N bs bm true sn sub ab col dd k0 k1 k2 k3 k5 "ArithmeticError.__new__") ∧ PySem.ErAE.refsAE bm = true
  sa : findIn K (.ref C) "__setattr__" = some (some (.builtin "object.__setattr__"))
  ga : findIn K (.ref C) "__getattribute__" = some (some (.builtin "BaseException.__getattribute__"))
  gg : findIn K (.ref C) "__getattr__" = some none
  noN : findIn K (.ref C) "limit" = some none
  iC : findIn K (.ref C) "__init__" = some (some (.ref fI))
  tC : typeIn K (.ref fI) = some (.type "function")
  kC : keepIn K (.ref C) = true
  exC : subIn K (.ref C) (.type "BaseException") = some true
  tyC : typeIn K (.ref C) = some (.type "type")
  hdC : hasDictIn K C = true
  fn : ∃ (oc : Value) (od : Option Addr) (doc pm : Value) (an : Option Addr) (cdv ct : Value) (osl : Array (Option Value)) (p1 p2 q1 q2 q3 q4 : Pos),
    K.lookup fI = some ⟨oc, od, .func (fnOf "__init__" qn (iA p1 p2) (iB q1 q2 q3 q4) iS .none .none doc pm an cdv ct), osl⟩ ∧ codeIn K cdv qn = true
theorem one_size (v : Value) : [v].length ≤ sizeLine := by
  rw [sizeLine_eq]
  exact (by decide : 1 ≤ 16777216)
theorem kept_but {K : Frag} {h h' : Heap} {x : Addr} (X : K.In h) (hx : K.lookup x = none) (k : ∀ b o, b ≠ x → h.get? b = some o → h'.get? b = some o) : K.In h' := fun a o e =>
  k a o (fun z => by rw [z, hx] at e; cases e) (X a o e)
theorem ldC {M : Model} {s : Shared} {name : Str} {scope : Scope} {L a : Addr} {cd : Value} {m : Str → Option Value} {x : Str} {pos : Pos} {v : Value} {Q : Value → Shared → Prop} {A : Around} {E : Value → Shared → Prop} (hn : s.heap.Ns L m) (hv : m x = some v) (h : Q v s)
    (hk : scope.kind = .function := by rfl) (hl : (envOfC name scope L a cd).kindOf x = some .local := by rfl) (hd : (x == ("__debug__" : Str)) = false := by decide) :
    wpAny M A (eval (.Name x pos) (envOfC name scope L a cd)) Q E s := wpAny_Name (wpAny_loadName_local hk hl hn hv h) hd
structure InitEnd (h h' : Heap) (x C dx t1 : Addr) (v : Value) : Prop where
  keep : ∀ b o, b ≠ x → h.get? b = some o → h'.get? b = some o
  obj : h'.get? x = some { cls := .ref C, dict := some dx, data := .fields #[.ref t1, .none, .none, .none, .bool false, .none] }
  dbig : h.objs.size ≤ dx
  dne : dx ≠ x
  ns : h'.Ns1 dx (fun y => if y = "limit" then some v else none)
structure OwnMade (h h' : Heap) (e C d : Addr) (v : Value) : Prop where
  keep : ∀ b o, h.get? b = some o → h'.get? b = some o
  new : h.objs.size ≤ e
  obj : ∃ oe vs, h'.get? e = some oe ∧ oe.cls = .ref C ∧ oe.dict = some d ∧ oe.data = .fields vs ∧ vs[1]? = some .none ∧ vs[2]? = some .none
  dbig : h.objs.size ≤ d
  dne : d ≠ e
  ns : h'.Ns1 d (fun y => if y = "limit" then some v else none)
section
variable {prog : Program} {w : World} {A : Around} {E : Value → Shared → Prop} {R : Result → Shared → Prop} {s : Shared} {K : Frag} {mg : Str → Option Value} {x0 qn : Str} {C fI : Addr}
theorem _limit_init (T : LowTxt K mg x0 qn C fI) {x t0 : Addr} {v : Value} (X : K.In s.heap) (hlim : s.heap.NoLimit) (hx : s.heap.get? x = some (excO C t0)) (hnx : K.lookup x = none) (hroom : A.depth < recursionLimit)
    (hq : ∀ h' tk dx, InitEnd s.heap h' x C dx t0 v → R (.ok (.ret .none)) { s with heap := h', toks := tk }) :
    codeAny (model prog w) A (.call (.ref fI) ⟨[.ref x, v], []⟩) R s := by
  obtain ⟨oc, od, doc, pm, an, cdv, ct, osl, p1, p2, q1, q2, q3, q4, ho, hcd⟩ := T.fn
  obtain ⟨nm, q, N, bs, bm, sn, sub, ab, col, dd, k0, k1, k2, k3, k5, hC, hbm⟩ := T.cls
  have hcl : clsIn K C = some { name := nm, bases := bs, mro := .ref C :: bm, ns := N, qualname := q, hasDict := true, slotNames := sn, subclasses := sub, abstract := ab, collection := col, hasDel := false } := by unfold clsIn; rw [hC] <;> rfl
  refine Att.call_fn (binds := [("self", .ref x), ("limit", v)]) X hlim ho hcd hroom (BindsTo.of_eq (by first | rfl | with_unfolding_all rfl)) (by first | rfl | decide | with_unfolding_all rfl) (fun s₁ IC => ?_) rfl rfl rfl
  obtain ⟨h₁, tk₁, rfl⟩ := IC.toInCall.same
  have k : ∀ b o, s.heap.get? b = some o → h₁.get? b = some o := IC.toInCall.keep
  have hn := IC.toInCall.ns
  have hxL : s.heap.objs.size ≠ x := Nat.ne_of_gt (Heap.lt_size hx)
  have X₁ : K.In h₁ := X.keeps k
  have hx₁ := k _ _ hx
  -- self.by = by
  show wpAny _ _ (execs _ _) _ _ _
  refine wpAny_execs_cons (plainObj_wpAny_Assign_Attribute ?_)
  refine ldC (v := v) hn (by first | rfl | with_unfolding_all rfl | kernel_rfl) (ldC (v := .ref x) hn (by first | rfl | with_unfolding_all rfl | kernel_rfl) ?_)
  refine set_plain X₁ (ox := excO C t0) (od := none) ⟨hx₁, rfl, rfl, trivial⟩ T.sa ?_
  refine PySem.ErAE.osa_made X₁ hx₁ hcl (PySem.ErAE.refs_cons hbm) rfl T.noN (fun h₃ tk₃ dx k₃ dn dne hx₃ hn₃ => ?_)
  show wpAny _ _ (execs _ _) _ _ _
  have z : s.heap.objs.size < h₁.objs.size := hn.lt
  exact wpAny_execs_nil (hq h₃ tk₃ dx ⟨fun b o hb e => k₃ b o hb (k b o e), hx₃, Nat.le_of_lt (Nat.lt_of_lt_of_le z dn), dne, hn₃⟩)
theorem _limit_made (T : LowTxt K mg x0 qn C fI) {v : Value} (X : K.In s.heap) (hlim : s.heap.NoLimit) (hroom : A.depth + 1 < recursionLimit)
    (hq : ∀ h' tk e d, OwnMade s.heap h' e C d v → R (.ok (.ret (.ref e))) { s with heap := h', toks := tk }) :
    codeAny (model prog w) A (.call (.ref C) ⟨[v], []⟩) R s := by
  obtain ⟨nm, q, N, bs, bm, sn, sub, ab, col, dd, k0, k1, k2, k3, k5, hC, hbm⟩ := T.cls
  obtain ⟨hp, g, dr, tk, os⟩ := s
  have k : ∀ b o, hp.get? b = some o → ((hp.push (kdv_tup [v])).push (excO C hp.objs.size)).get? b = some o := fun b o e => Heap.get?_push_of_some _ (Heap.get?_push_of_some _ e)
  have hget : ((hp.push (kdv_tup [v])).push (excO C hp.objs.size)).get? (hp.objs.size + 1) = some (excO C hp.objs.size) := by heap_get
  have hnx : K.lookup (hp.objs.size + 1) = none := by
    cases e : K.lookup (hp.objs.size + 1) with
    | none => rfl
    | some o =>
      have z : hp.get? (hp.objs.size + 1) = some o := X _ _ e
      exact absurd (Nat.lt_of_succ_lt (Heap.lt_size z)) (Nat.lt_irrefl _)
  refine call_own F.excBase_ArithmeticError (fun X => PySem.ErAE.refs_contains X hbm) (X _ _ hC) (looks_findIn X T.iC) (fun self => bind_fn X self T.tC) (one_size v) ?_
  refine _limit_init (s := ⟨(hp.push (kdv_tup [v])).push (excO C hp.objs.size), g, dr, tk, os⟩) T (X.keeps k) (hlim.keeps k) hget hnx ?_ fun h' tk' dx ⟨k', hx, dn, dne, hns⟩ => ?_
  · show A.depth + 1 < recursionLimit
    exact hroom
  · have old : ∀ b o, hp.get? b = some o → h'.get? b = some o := fun b o e => k' b o (Nat.ne_of_lt (Nat.lt_succ_of_lt (Heap.lt_size e))) (k b o e)
    have z : hp.objs.size + 1 + 1 ≤ dx := by
      first
        | (simpa only [Heap.size_push] using dn)
        | exact dn
        | (have q := dn; rw [Heap.size_push, Heap.size_push] at q; exact q)
    exact ⟨rfl, hq h' tk' (hp.objs.size + 1) dx ⟨old, Nat.le_succ _, ⟨_, _, hx, rfl, rfl, rfl, rfl, rfl⟩, Nat.le_trans (Nat.le_trans (Nat.le_succ _) (Nat.le_succ _)) z, dne, hns⟩⟩
end
end Er_limitX
end PySem
namespace L2
open PySem PySem.Spec PyProof.Rows
theorem relO__limit {v : V} {v' : Value} (r : RelV v v') (f : Str) : RelO (List.lookup f [(("limit" : Str), v)]) (if f = "limit" then some v' else none) := by
  by_cases hw : f = "limit"
  · subst hw
    rw [if_pos rfl]
    have q : List.lookup ("limit" : Str) [(("limit" : Str), v)] = some v := by simp [List.lookup]
    rw [q]
    exact r
  · rw [if_neg hw]
    have qw : (f == ("limit" : Str)) = false := by simpa using hw
    have q2 : List.lookup f [(("limit" : Str), v)] = none := by simp [List.lookup, qw]
    rw [q2]
    trivial
section
variable {X : Cx} {x0 qn : Str} {C fI : Addr}
def tMk_limit (C : Addr) (ta : TA) : St → Hp → XK → Prop := fun σ H Q => ta σ H fun vs H1 => ∃ v, vs = [v] ∧ ∀ d, H1 d = none → Q (.ref C) (some d) (upd H1 d (.xd [(("limit" : Str), v)]))
theorem pmk__limit {a : Expr} {ta : TA} {p pos : Pos} {k : Nat} (T : PySem.Er_limitX.LowTxt X.K X.mg x0 qn C fI) (hr : Room k X.A) (ha : PA X [a] ta) (hg : Gl X x0) (hdb : (x0 == ("__debug__" : Str)) = false)
    (he : starEach (a :: []) X.env = (false, eval a X.env) :: starEach [] X.env := by rfl) (hpl : (backTo pos (starEach [] X.env)).any (·.1) = false := by rfl) :
    L2N.PMk X (.Call (.Name x0 p) [a] [] pos) (tMk_limit C ta) := by
  intro pins s σ H Q I h
  refine wpAny_Call_Name_kw (ld_glob I hg T.gC ?_ hdb)
  refine PySem.W.callWith_K (h₀ := X.base) I.ok.mod.kin T.kC (thn (ha.run pos pins s σ H _ I h) fun us s1 hh => ?_) he hpl
  obtain ⟨vs, H1, I1, r1, v, ev, q1⟩ := hh
  subst ev
  refine ⟨I1.kIn, ?_⟩
  cases r1 with
  | cons rv rn =>
    rename_i v' us'
    cases rn
    show wpAny _ _ (call (.ref C) [v']) _ _ _
    have hlim := I1.nolimit
    obtain ⟨hp, g, dr, tk, os⟩ := s1
    refine wpAny_call (PySem.Er_limitX._limit_made T I1.kIn hlim (by have := hr.dp; omega) fun h' tk' e d M => ?_)
    show L2N.MkP X pins σ Q (.ref e) ⟨h', g, dr, tk', os⟩
    obtain ⟨oe, fv, hoe, hc, hd, hdat, h1, h2⟩ := M.obj
    have hns := M.ns
    obtain ⟨G', g1, g2⟩ := restrict h' fun b => decide (b ≠ e)
    have gk : ∀ b, b ≠ e → G'.get? b = h'.get? b := fun b hb => g1 b (decide_eq_true hb)
    have ge : G'.get? e = none := g2 e (by simp)
    have old : ∀ b o, hp.get? b = some o → G'.get? b = some o := fun b o q => (gk b (Nat.ne_of_lt (Nat.lt_of_lt_of_le (Heap.lt_size q) M.new))).trans (M.keep b o q)
    have ob : ObjOk X.prog X.w (upd H1 d (.xd [(("limit" : Str), v)])) G' d (.xd [(("limit" : Str), v)]) :=
      ⟨_, hns.at (fun o q => (gk d M.dne).trans q), fun f => relO__limit rv f⟩
    have J : Inv X pins σ (upd H1 d (.xd [(("limit" : Str), v)])) ⟨G', g, dr, tk', os⟩ := I1.laid (t' := tk') old M.dbig ob
    refine ⟨e, oe, fv, ⟨G', g, dr, tk', os⟩, _, .ref C, some d, rfl, J, fun b o q => ?_, ge, hoe, ⟨hc, hd, fun ws ew => by rw [hdat] at ew; cases ew; exact h2⟩, hdat, h1, ?_, rfl, I1.bare, raises_own T.exC T.tyC, q1 d (I1.hok.fresh M.dbig)⟩
    · by_cases hb : b = e
      · have q' : G'.get? b = some o := q
        rw [hb, ge] at q'; cases q'
      · exact (gk b hb).symm.trans q
    · rw [upd_ne (Ne.symm M.dne)]
      exact I1.hok.fresh M.new
def tRaise_limit (C : Addr) (W : WX) (ta : TA) : TS := fun _ σ H => tMk_limit C ta σ H fun cls d H' => W cls d σ H'
theorem ps_raise_limit {a : Expr} {ta : TA} {W : WX} {p pos pos2 : Pos} {k : Nat} (hc : X.calm = true) (T : PySem.Er_limitX.LowTxt X.K X.mg x0 qn C fI) (hr : Room k X.A) (tk : L2N.Takes X W) (ha : PA X [a] ta) (hg : Gl X x0) (hdb : (x0 == ("__debug__" : Str)) = false)
    (he : starEach (a :: []) X.env = (false, eval a X.env) :: starEach [] X.env := by rfl) (hpl : (backTo pos (starEach [] X.env)).any (·.1) = false := by rfl) :
    PS X (.Raise (some (.Call (.Name x0 p) [a] [] pos)) none pos2) (tRaise_limit C W ta) := L2N.ps_raise hc tk (pmk__limit T hr ha hg hdb he hpl)
def tBy_limit (C : Addr) (a : Addr) (cls : Value) (d : Option Addr) (te : TE) : TE := fun σ H Q => te σ H fun x H1 => x = .ref a ∧ cls = .ref C ∧ ∃ (dd : Addr) (v : V), d = some dd ∧ H1 dd = some (.xd [(("limit" : Str), v)]) ∧ Q v H1
theorem pe_by_limit {a : Addr} {oe : Obj} {cls : Value} {d : Option Addr} {pn : List (Addr × Obj)} {e : Expr} {te : TE} {pos : Pos} (T : PySem.Er_limitX.LowTxt X.K X.mg x0 qn C fI) (hz : L2N.Zn cls d oe) (hf : ∃ vs, oe.data = .fields vs) (he : PE (X.suite a ((a, oe) :: pn)) e te)
    (hb : attributeBase e "limit" X.env (eval e X.env) = eval e X.env := by rfl) :
    PE (X.suite a ((a, oe) :: pn)) (.Attribute e "limit" pos) (tBy_limit C a cls d te) := by
  refine ⟨fun pins s σ H Q I h => ?_⟩
  refine attr_of hb (thn (he.run pins s σ H _ I h) fun u s1 hh => ?_)
  obtain ⟨x, H1, I1, rx, ex, ec, dd, v, ed, ea, q⟩ := hh
  subst ex
  obtain rfl : u = Value.ref a := rx
  subst ec
  subst ed
  obtain ⟨ha, _⟩ := I1.pin (a, oe) (List.mem_append_left _ List.mem_cons_self)
  obtain ⟨vs, hd⟩ := hf
  have hx : ObjOk X.prog X.w H1 s1.heap dd (.xd [(("limit" : Str), v)]) := I1.hok dd _ ea
  obtain ⟨mA, hns, hr⟩ := hx
  obtain ⟨od, ho, hl⟩ := lookIn_ns hns
  have l : List.lookup ("limit" : Str) [(("limit" : Str), v)] = some v := by simp [List.lookup]
  obtain ⟨u, hu, ru⟩ := RelO.some_of (v := v) (o := mA "limit") (by rw [← l]; exact hr "limit")
  have J : PySem.W.InstAt s1.heap a oe C (some od) := ⟨ha, hz.1, by unfold PySem.W.notCls; rw [hd] <;> rfl, by rw [hz.2.1]; exact ho⟩
  exact HandSPX.exc_get I1.kIn J T.ga T.gg T.exC (PySem.W.findObj_own T.hdC T.noN rfl (by rw [hl, hu])) (handed_of ru) ⟨v, H1, I1.tok _, ru, q⟩
end
end L2

namespace CS
open PySem PySem.Spec PyProof.Rows L2
section
variable {A : AD} {X : Cx} {W : WX}
theorem pms_rs_limit {k : Nat} {C fI : Addr} {x0 qn : Str} {a : Expr} {fe : DE} {p pos pos2 : Pos} {l : Nat} (hca : A.ca k = some C) (hc : X.calm = true) (tk : L2N.Takes X W) (T : PySem.Er_limitX.LowTxt X.K X.mg x0 qn C fI) (hr : Room l X.A) (he : PM A X W a fe) (hg : Gl X x0) (hdb : (x0 == ("__debug__" : Str)) = false)
    (hs : starEach (a :: []) X.env = (false, eval a X.env) :: starEach [] X.env) (hpl : (backTo pos (starEach [] X.env)).any (·.1) = false) : PMS A X W (.Raise (some (.Call (.Name x0 p) [a] [] pos)) none pos2) (sRsA k "limit" fe) := by
  refine (ps_raise_limit hc T hr tk (pa_cons he pa_nil hs) hg hdb hs hpl).imp fun D σ H ⟨m, ρ, st, r, v, h⟩ => ?_
  refine ⟨m, ρ, st, r, v, (SRun.sb h v).imp fun x st1 m1 H1 r1 e1 k1 u hu => ?_⟩
  refine ⟨u, rfl, fun d hd => ?_⟩
  have e2 : Ext (gc A X) m1 H1 m1 (upd H1 d (.xd [(("limit" : Str), u)])) := ext_new hd
  exact k1 m1 _ σ (.ref C) (some d) e2 (r1.same (upd_keeps hd)) ((v.mono e1).mono e2) ⟨C, hca, rfl, .inr ⟨d, _, rfl, upd_same, .cons ⟨rfl, hu.mono e2⟩ .nil⟩⟩
end
theorem suite_ret_limit {A : AD} {X : Cx} {a : Addr} {oe : Obj} {cls : Value} {d : Option Addr} {pn : List (Addr × Obj)} {k0 i : Nat} {C fI : Addr} {x0 qn n s cn1 cn2 : Str} {c1 c2 : V} {cv1 cv2 : Value} {p1 p2 p3 p4 p5 p6 p7 p8 p9 p10 p11 p12 p13 p14 : Pos} {j1 : Nat}
    (hca : A.ca k0 = some C) (T : PySem.Er_limitX.LowTxt X.K X.mg x0 qn C fI) (E : ExcD X.K C) (hz : L2N.Zn cls d oe) (hf : ∃ vs, oe.data = .fields vs)
    (hi : X.N[i]? = some n) (hv : Vis X.env.scope n) (hd : (n == ("__debug__" : Str)) = false) (hcd : (n == ("__classdict__" : Str)) = false)
    (hc1 : PE (X.suite a ((a, oe) :: pn)) (.Name cn1 p1) (tC c1)) (hc2 : PE (X.suite a ((a, oe) :: pn)) (.Name cn2 p2) (tC c2)) (h1 : ∀ u, RelV c1 u → u = cv1) (h2 : ∀ u, RelV c2 u → u = cv2)
    (k1 : PySem.W.kitOne X.K (.ref C) cv1 = some true) (k2 : PySem.W.kitOne X.K (.ref C) cv2 = some true) (hb : X.mg "isinstance" = none) (hg : Gl X "isinstance") :
    PSs (X.suite a ((a, oe) :: pn)) [.Return (some (.List [.Constant (.str s) j1 p3, .Attribute (.Name n p4) "limit" p5, .BoolOp .And [.Call (.Name "isinstance" p6) [.Name n p7, .Name cn1 p1] [] p8, .Call (.Name "isinstance" p9) [.Name n p10, .Name cn2 p2] [] p11] p12] p13)) p14] (tSx (gc A X) (fRet k0 s "limit") i a cls d) := by
  have var : ∀ q : Pos, PE (X.suite a ((a, oe) :: pn)) (.Name n q) (tVar i) := fun q => pe_var (X := X.suite a ((a, oe) :: pn)) hi hv hd hcd
  refine ⟨fun pk s0 σ H D I w => ?_⟩
  obtain ⟨m, ρ, st, x, rel, env, hσ, rx, k⟩ := w
  have len : i < σ.length := by
    rw [I.len]
    exact (List.getElem?_eq_some_iff.mp hi).1
  have hσ := hσ len
  unfold fRet at k
  split at k
  · rename_i kx h v
    split at k
    · rename_i hh
      obtain ⟨rfl, rfl⟩ := hh
      obtain ⟨C', hC', rfl, z⟩ := id rx
      have eC : C' = C := by
        have : A.ca kx = some C' := hC'
        rw [hca] at this
        exact (Option.some.inj this).symm
      subst eC
      rcases z with z | ⟨dd, gs, rfl, hd', rf⟩
      · cases z
      · cases rf with
        | @cons _ q _ qs hq hr =>
        cases hr
        obtain ⟨e1, hu⟩ := hq
        obtain ⟨g', u⟩ := q
        dsimp only at e1 hu
        subst e1
        have is1 := fun q r => pe_callB (X := X.suite a ((a, oe) :: pn)) (p := q) (pos := r) (call_isD E hz hf) hg hb (by rfl) (pa_cons (var p7) (pa_cons hc1 pa_nil))
        have is2 := fun q r => pe_callB (X := X.suite a ((a, oe) :: pn)) (p := q) (pos := r) (call_isD E hz hf) hg hb (by rfl) (pa_cons (var p10) (pa_cons hc2 pa_nil))
        refine (pss_one (ps_ret (pe_lst (pa_cons pe_str (pa_cons (pe_by_limit T hz hf (var p4)) (pa_cons (pe_and (is1 p6 p8) (pe_one (is2 p9 p11))) pa_nil)))))).run pk s0 σ H D I ?_
        refine ⟨_, hσ, rfl, rfl, dd, u, rfl, hd', ?_⟩
        refine ⟨_, hσ, c1, cv1, true, _, rfl, h1, k1, hd', true, rfl, ?_⟩
        refine ⟨_, hσ, c2, cv2, true, _, rfl, h2, k2, hd', ?_⟩
        refine ⟨(by show 3 ≤ sizeLine; decide), fun p hp => ?_⟩
        obtain ⟨r2, e2⟩ := rel.grow (o := .lst [.str s, v, .bl true]) hp (upd_keeps hp) ⟨_, upd_same, .cons (.str s) (.cons (hu.mono (Ext.grow hp (upd_keeps hp))) (.cons (.bl true) .nil))⟩
        exact k _ _ _ e2 r2 (.ref (by rw [← rel.len]; simp))
    · exact k.elim
  · exact k.elim
theorem suite_pair_limit {A : AD} {X : Cx} {a : Addr} {oe : Obj} {cls : Value} {d : Option Addr} {pn : List (Addr × Obj)} {k0 n i j : Nat} {C fI : Addr} {x0 qn nm s x y : Str} {px py pt p1 p2 p3 pos : Pos} {kt k2 pt2} {j1 : Nat}
    (hca : A.ca k0 = some C) (T : PySem.Er_limitX.LowTxt X.K X.mg x0 qn C fI) (hz : L2N.Zn cls d oe) (hf : ∃ vs, oe.data = .fields vs) (hN : X.N.Nodup)
    (hi : X.N[i]? = some x) (hj : X.N[j]? = some y) (hn : X.N[n]? = some nm) (hij : i ≠ j) (hx : X.env.scope.names.lookup x = some .local) (hy : X.env.scope.names.lookup y = some .local)
    (hv : Vis X.env.scope nm) (hd : (nm == ("__debug__" : Str)) = false) (hcd : (nm == ("__classdict__" : Str)) = false)
    (hw : swappedStores [.Tuple [.Name x px, .Name y py] kt pt] (.Tuple [.Constant (.str s) j1 p1, .Attribute (.Name nm p2) "limit" p3] k2 pt2) X.env = pure (some [x, y]))
    (hs : swapsWithSole [.Tuple [.Name x px, .Name y py] kt pt] (.Tuple [.Constant (.str s) j1 p1, .Attribute (.Name nm p2) "limit" p3] k2 pt2) pos.line X.env = pure false) :
    PSs (X.suite a ((a, oe) :: pn)) [.Assign [.Tuple [.Name x px, .Name y py] kt pt] (.Tuple [.Constant (.str s) j1 p1, .Attribute (.Name nm p2) "limit" p3] k2 pt2) pos] (tSx (gc A X) (fPair k0 s "limit" i j) n a cls d) := by
  have var : PE (X.suite a ((a, oe) :: pn)) (.Name nm p2) (tVar n) := pe_var (X := X.suite a ((a, oe) :: pn)) hn hv hd hcd
  have hot : ∀ (pins : List (Addr × Obj)) (σ : L2.St) (H : Hp) (s : Shared), Inv (X.suite a ((a, oe) :: pn)) pins σ H s → ∃ x1, HotX.HotAt (X.suite a ((a, oe) :: pn)).A x1 s.heap := fun pins σ H s I => by
    obtain ⟨vs, dat⟩ := hf
    exact ⟨a, rfl, oe, vs, (I.pin (a, oe) (List.mem_append_left _ List.mem_cons_self)).1, dat, hz.2.2 vs dat⟩
  refine ⟨fun pk s0 σ H D I w => ?_⟩
  obtain ⟨m, ρ, st, x', rel, env, hσ, rx, k⟩ := w
  have len : n < σ.length := by
    rw [I.len]
    exact (List.getElem?_eq_some_iff.mp hn).1
  have hσ := hσ len
  unfold fPair at k
  split at k
  · rename_i kx h v
    split at k
    · rename_i hh
      obtain ⟨rfl, rfl⟩ := hh
      obtain ⟨C', hC', rfl, z⟩ := id rx
      have eC : C' = C := by
        have : A.ca kx = some C' := hC'
        rw [hca] at this
        exact (Option.some.inj this).symm
      subst eC
      rcases z with z | ⟨dd, gs, rfl, hd', rf⟩
      · cases z
      · cases rf with
        | @cons _ q _ qs hq hr =>
        cases hr
        obtain ⟨e1, hu⟩ := hq
        obtain ⟨g', u⟩ := q
        dsimp only at e1 hu
        subst e1
        refine (pss_one (ps_par_hot (X := X.suite a ((a, oe) :: pn)) hot hN hi hj hij hx hy (pa_cons pe_str (pa_cons (pe_by_limit T hz hf var) pa_nil)) hw hs)).run pk s0 σ H D I ?_
        refine ⟨_, hσ, rfl, rfl, dd, u, rfl, hd', ?_⟩
        exact ⟨_, _, rfl, k m H _ .refl rel ((env.set (.str s)).set hu)⟩
    · exact k.elim
  · exact k.elim
end CS
namespace CS
open PySem PySem.Spec L2
section
variable {A : AD} {X : Cx} {W : WX} {σ : L2.St} {H : Hp} {pos : Pos}
def eDct : DE := fun _ st => ret (.ref st.length) (st ++ [.dct])
theorem pm_dct : PM A X W (.Dict [] [] pos) eDct := by
  refine pe_dnewK.imp fun σ H Q ⟨m, ρ, st, r, v, k⟩ => ?_
  intro p hp
  obtain ⟨r1, e1⟩ := r.grow (o := .dct) hp (upd_keeps (u := .dK []) hp) upd_same
  exact (show Run (gc A X) W σ m H (ret (MV.ref st.length) (st ++ [.dct])) (kV (gc A X) Q) from k) _ _ e1 r1 _ (.ref (by rw [← r.len]; simp))
end
@[simp] theorem wp_dct {ρ : MEnv} {st : Sto} {P : MV → Sto → Prop} {X : MX → Sto → Prop} : Wp (eDct ρ st) P X = P (.ref st.length) (st ++ [.dct]) := id rfl
end CS
namespace Kk02
open PySem PySem.Spec PyProof.Rows L2 CS
def top (i : Nat) : Stmt := PySem.Challenge.pw_cabshares_k02_rides_refused.main.body.getD i (.Pass ⟨0, 0, 0, 0⟩)
abbrev F_is_integer : Nat := 0
abbrev F_is_between : Nat := 1
abbrev F_check_costs : Nat := 2
abbrev F_is_rider : Nat := 3
abbrev F_check_riders : Nat := 4
abbrev F_aboard_at : Nat := 5
abbrev F_is_crowded : Nat := 6
abbrev F_Ride___init__ : Nat := 7
abbrev F_Ride___len__ : Nat := 8
abbrev F_Ride___eq__ : Nat := 9
abbrev F_Ride___repr__ : Nat := 10
abbrev F__law_jug : Nat := 11
abbrev F__law_drop : Nat := 12
abbrev F__law_one : Nat := 13
abbrev F__law_outcome : Nat := 14
abbrev F__law_bad_prices : Nat := 15
abbrev F__law_bad_folk : Nat := 16
abbrev F__law_right : Nat := 17
abbrev F_law : Nat := 18
abbrev C_InputError : Nat := 0
abbrev C_SizeError : Nat := 1
abbrev C_InvalidStretch : Nat := 2
abbrev C_InvalidCosts : Nat := 3
abbrev C_InvalidRiders : Nat := 4
abbrev C_TooMany : Nat := 5
abbrev C_Ride : Nat := 6
abbrev dt_is_integer : DefT := ⟨"is_integer", "is_integer", top 14, ["value"], ["value"]⟩
abbrev dt_is_between : DefT := ⟨"is_between", "is_between", top 15, ["value", "low", "high"], ["value", "low", "high"]⟩
abbrev dt_check_costs : DefT := ⟨"check_costs", "check_costs", top 17, ["value"], ["value", "index", "cost"]⟩
abbrev dt_is_rider : DefT := ⟨"is_rider", "is_rider", top 18, ["value", "stretches"], ["value", "stretches"]⟩
abbrev dt_check_riders : DefT := ⟨"check_riders", "check_riders", top 19, ["value", "stretches"], ["value", "stretches", "index", "rider"]⟩
abbrev dt_aboard_at : DefT := ⟨"aboard_at", "aboard_at", top 20, ["riders", "stretch"], ["riders", "stretch", "place", "rider"]⟩
abbrev dt_is_crowded : DefT := ⟨"is_crowded", "is_crowded", top 21, ["stretches", "riders"], ["stretches", "riders", "stretch"]⟩
abbrev dt_Ride___init__ : DefT := ⟨"__init__", "Ride.__init__", inClass (top 22) 0, ["self", "costs", "riders"], ["self", "costs", "riders"]⟩
abbrev dt_Ride___len__ : DefT := ⟨"__len__", "Ride.__len__", inClass (top 22) 3, ["self"], ["self"]⟩
abbrev dt_Ride___eq__ : DefT := ⟨"__eq__", "Ride.__eq__", inClass (top 22) 4, ["self", "other"], ["self", "other"]⟩
abbrev dt_Ride___repr__ : DefT := ⟨"__repr__", "Ride.__repr__", inClass (top 22) 5, ["self"], ["self"]⟩
abbrev dt__law_jug : DefT := ⟨"_law_jug", "_law_jug", top 25, ["_law_script", "_law_k"], ["_law_script", "_law_k", "_law_own", "_law_mixed", "_law_entry"]⟩
abbrev dt__law_drop : DefT := ⟨"_law_drop", "_law_drop", top 26, ["_law_jug_here", "_law_many"], ["_law_jug_here", "_law_many", "_law_digit"]⟩
abbrev dt__law_one : DefT := ⟨"_law_one", "_law_one", top 27, ["_law_jug_here", "_law_things"], ["_law_jug_here", "_law_things"]⟩
abbrev dt__law_outcome : DefT := ⟨"_law_outcome", "_law_outcome", top 28, ["_law_ask"], ["_law_ask", "_law_given", "e"]⟩
abbrev dt__law_bad_prices : DefT := ⟨"_law_bad_prices", "_law_bad_prices", top 29, ["_law_jug_here"], ["_law_jug_here", "_law_odd", "_law_at", "_law_some"]⟩
abbrev dt__law_bad_folk : DefT := ⟨"_law_bad_folk", "_law_bad_folk", top 30, ["_law_jug_here"], ["_law_jug_here", "_law_good", "_law_at", "_law_odd", "_law_some"]⟩
abbrev dt__law_right : DefT := ⟨"_law_right", "_law_right", top 31, ["_law_jug_here"], ["_law_jug_here", "_law_prices", "_law_folk", "_law_bad", "_law_spot", "_law_odd", "_law_late", "_law_wide", "_law_crowd", "_law_seen_here", "_law_due", "_law_six"]⟩
abbrev dt_law : DefT := ⟨"law", "law", top 32, ["_law_script"], ["_law_script", "_law_k"]⟩
abbrev DT : List DefT := [dt_is_integer, dt_is_between, dt_check_costs, dt_is_rider, dt_check_riders, dt_aboard_at, dt_is_crowded, dt_Ride___init__, dt_Ride___len__, dt_Ride___eq__, dt_Ride___repr__, dt__law_jug, dt__law_drop, dt__law_one, dt__law_outcome, dt__law_bad_prices, dt__law_bad_folk, dt__law_right, dt_law]
abbrev A_costs : List Nat := [C_Ride]
abbrev A_riders : List Nat := [C_Ride]
abbrev A_told : List Nat := [C_Ride]
abbrev sp_len : Tl := [(C_Ride, F_Ride___len__)]
abbrev sp_repr : Tl := [(C_Ride, F_Ride___repr__)]
abbrev sp_eq : Tl := [(C_Ride, F_Ride___eq__)]
abbrev os_eq : List Nat := [C_Ride]
abbrev kt_ : Kt := [((.b "NoneType", C_Ride), false), ((.b "bool", C_Ride), false), ((.b "int", C_Ride), false), ((.b "str", C_Ride), false), ((.b "tuple", C_Ride), false), ((.b "list", C_Ride), false), ((.o C_Ride, C_Ride), true)]
abbrev kb_ : Kb := [((C_Ride, "tuple"), false), ((C_Ride, "int"), false), ((C_Ride, "bool"), false), ((C_Ride, "str"), false)]
abbrev sh_Ride___init___1_riders_costs : CS.Shape := ⟨1, ["riders", "costs"], [.pos 0, .kw 1, .kw 0]⟩
abbrev tt_InvalidCosts : Nat → Option Bool := fun k => if k = C_InvalidCosts then some true else if k = C_InvalidRiders then some false else if k = C_TooMany then some false else none
abbrev tt_InvalidRiders : Nat → Option Bool := fun k => if k = C_InvalidCosts then some false else if k = C_InvalidRiders then some true else if k = C_TooMany then some false else none
abbrev tt_TooMany : Nat → Option Bool := fun k => if k = C_InvalidCosts then some false else if k = C_InvalidRiders then some false else if k = C_TooMany then some true else none
noncomputable def D_is_integer (S : Nat → Fn) : DS :=
  sSq (sRt (eAnd (eCall (isiM kt_ kb_) (aCons (eVar 0) (aCons (eC (.ty "int")) (aNil)))) (eNot (eCall (isiM kt_ kb_) (aCons (eVar 0) (aCons (eC (.ty "bool")) (aNil)))))))
    (sNx)
noncomputable def D_is_between (S : Nat → Fn) : DS :=
  sSq (sRt (eAnd (eCall (S F_is_integer) (aCons (eVar 0) (aNil))) (eCh leM leM (eVar 1) (eVar 0) (eVar 2))))
    (sNx)
noncomputable def D_check_costs (S : Nat → Fn) : DS :=
  sSq (sIf (bOr (bNot (bTru (eCall (isiM kt_ kb_) (aCons (eVar 0) (aCons (eC (.ty "tuple")) (aNil)))))) (bNot (asB (eCh leM leM (eC (.int 1)) (eCall (lenI (tbOf sp_len S)) (aCons (eVar 0) (aNil))) (eC (.int 12)))))) (sSq (sRsA C_InvalidCosts "index" (eC .non))
    (sNx)) (sNx))
    (sSq (sFor (iEn (aCons (eVar 0) (aNil))) (gTp (gCn (gNm 1) (gCn (gNm 2) (gNl))) 2) (sSq (sIf (bNot (bTru (eCall (S F_is_between) (aCons (eVar 2) (aCons (eC (.int 0)) (aCons (eC (.int 1000000)) (aNil))))))) (sSq (sRsA C_InvalidCosts "index" (eVar 1))
    (sNx)) (sNx))
    (sNx)))
    (sNx))
noncomputable def D_is_rider (S : Nat → Fn) : DS :=
  sSq (sIf (bOr (bNot (bTru (eCall (isiM kt_ kb_) (aCons (eVar 0) (aCons (eC (.ty "tuple")) (aNil)))))) (bOr (asB (eOp (neI (tbOf sp_eq S) os_eq) (eCall (lenI (tbOf sp_len S)) (aCons (eVar 0) (aNil))) (eC (.int 3)))) (bNot (bTru (eCall (S F_is_between) (aCons (eOp ixM (eVar 0) (eC (.int 0))) (aCons (eC (.int 0)) (aCons (eOp subM (eVar 1) (eC (.int 1))) (aNil))))))))) (sSq (sRt (eC (.bl false)))
    (sNx)) (sNx))
    (sSq (sRt (eAnd (eCall (S F_is_between) (aCons (eOp ixM (eVar 0) (eC (.int 1))) (aCons (eOp addM (eOp ixM (eVar 0) (eC (.int 0))) (eC (.int 1))) (aCons (eVar 1) (aNil))))) (eCall (S F_is_between) (aCons (eOp ixM (eVar 0) (eC (.int 2))) (aCons (eC (.int 0)) (aCons (eC (.int 9)) (aNil)))))))
    (sNx))
noncomputable def D_check_riders (S : Nat → Fn) : DS :=
  sSq (sIf (bOr (bNot (bTru (eCall (isiM kt_ kb_) (aCons (eVar 0) (aCons (eC (.ty "tuple")) (aNil)))))) (bNot (asB (eCh leM leM (eC (.int 1)) (eCall (lenI (tbOf sp_len S)) (aCons (eVar 0) (aNil))) (eC (.int 6)))))) (sSq (sRsA C_InvalidRiders "index" (eC .non))
    (sNx)) (sNx))
    (sSq (sFor (iEn (aCons (eVar 0) (aNil))) (gTp (gCn (gNm 2) (gCn (gNm 3) (gNl))) 2) (sSq (sIf (bNot (bTru (eCall (S F_is_rider) (aCons (eVar 3) (aCons (eVar 1) (aNil)))))) (sSq (sRsA C_InvalidRiders "index" (eVar 2))
    (sNx)) (sNx))
    (sNx)))
    (sNx))
noncomputable def D_aboard_at (S : Nat → Fn) : DS :=
  sSq (sRt (eFu tupleL (eLc (iEn (aCons (eVar 0) (aNil))) (.tup [2, 3]) (asB (eCh leM ltM (eOp ixM (eVar 3) (eC (.int 0))) (eVar 1) (eOp ixM (eVar 3) (eC (.int 1))))) (eVar 2) [2, 3])))
    (sNx)
noncomputable def D_is_crowded (S : Nat → Fn) : DS :=
  sSq (sRt (eFu anyL (eLc (iR1 (aCons (eVar 0) (aNil))) (.one 2) (bYes) (eOp gtM (eCall (lenI (tbOf sp_len S)) (aCons (eCall (S F_aboard_at) (aCons (eVar 1) (aCons (eVar 2) (aNil)))) (aNil))) (eC (.int 4))) [2])))
    (sNx)
noncomputable def D_Ride___init__ (S : Nat → Fn) : DS :=
  sSq (sEx (eCall (S F_check_costs) (aCons (eVar 1) (aNil))))
    (sSq (sEx (eCall (S F_check_riders) (aCons (eVar 2) (aCons (eCall (lenI (tbOf sp_len S)) (aCons (eVar 1) (aNil))) (aNil)))))
    (sSq (sIf (bTru (eCall (S F_is_crowded) (aCons (eCall (lenI (tbOf sp_len S)) (aCons (eVar 1) (aNil))) (aCons (eVar 2) (aNil))))) (sSq (sRsA C_TooMany "limit" (eC (.int 4)))
    (sNx)) (sNx))
    (sSq (sFl A_costs "costs" (eVar 0) (eVar 1))
    (sSq (sFl A_riders "riders" (eVar 0) (eVar 2))
    (sSq (sFl A_told "told" (eVar 0) (eTup (aCons (eVar 1) (aCons (eVar 2) (aNil)))))
    (sNx))))))
noncomputable def D_Ride___len__ (S : Nat → Fn) : DS :=
  sSq (sRt (eCall (lenI (tbOf sp_len S)) (aCons (eFld A_riders "riders" (eVar 0)) (aNil))))
    (sNx)
noncomputable def D_Ride___eq__ (S : Nat → Fn) : DS :=
  sSq (sRt (eAnd (eCall (isiM kt_ kb_) (aCons (eVar 1) (aCons (eC (.cl C_Ride)) (aNil)))) (eOp (eqI (tbOf sp_eq S) os_eq) (eFld A_told "told" (eVar 0)) (eFld A_told "told" (eVar 1)))))
    (sNx)
noncomputable def D_Ride___repr__ (S : Nat → Fn) : DS :=
  sSq (sRt (eJn [eC (.str "Ride("), eFm (eCall (lenI (tbOf sp_len S)) (aCons (eFld A_costs "costs" (eVar 0)) (aNil))), eC (.str " stretches, "), eFm (eCall (lenI (tbOf sp_len S)) (aCons (eFld A_riders "riders" (eVar 0)) (aNil))), eC (.str " riders)")]))
    (sNx)
noncomputable def D__law_jug (S : Nat → Fn) : DS :=
  sSq (sAs (eIf (asB (eOp ltM (eVar 1) (eCall (lenI (tbOf sp_len S)) (aCons (eVar 0) (aNil))))) (eCall intM (aCons (eOp ixM (eVar 0) (eVar 1)) (aNil))) (eOp addM (eOp mulM (eC (.int 53)) (eVar 1)) (eC (.int 31)))) (gNm 2))
    (sSq (sAs (eOp addM (eC (.int 20011)) (eOp mulM (eC (.int 1321)) (eVar 1))) (gNm 3))
    (sSq (sFor (iSq (eSl (eVar 0) (oNone) (oSome (eC (.int 12))))) (gNm 4) (sSq (sAs (eOp modM (eCall intM (aCons (eOp addM (eOp mulM (eVar 3) (eC (.int 40037))) (eOp modM (eCall intM (aCons (eVar 4) (aNil))) (eC (.int 1999999751)))) (aNil))) (eC (.int 1999999751))) (gNm 3))
    (sNx)))
    (sSq (sRt (eLst (aCons (eOp modM (eCall intM (aCons (eOp addM (eOp mulM (eVar 3) (eC (.int 19))) (eOp modM (eVar 2) (eC (.int 1999999751)))) (aNil))) (eC (.int 1999999751))) (aCons (eIf (bOr (asB (eOp ltM (eVar 2) (eC (.int 0)))) (asB (eOp geM (eVar 2) (eOp powM (eC (.int 10)) (eC (.int 13)))))) (eCall absM (aCons (eVar 2) (aNil))) (eC (.int 0))) (aCons (eC (.int 3)) (aNil))))))
    (sNx))))
noncomputable def D__law_drop (S : Nat → Fn) : DS :=
  sSq (sAs (eOp addM (eOp ixM (eVar 0) (eC (.int 2))) (eC (.int 2))) (gSb (eVar 0) (eC (.int 2))))
    (sSq (sIf (asB (eOp gtM (eOp ixM (eVar 0) (eC (.int 1))) (eC (.int 0)))) (sSq (sAs (eCall divmodM (aCons (eCall intM (aCons (eOp ixM (eVar 0) (eC (.int 1))) (aNil))) (aCons (eVar 1) (aNil)))) (gTp (gCn (gSb (eVar 0) (eC (.int 1))) (gCn (gNm 2) (gNl))) 2))
    (sSq (sRt (eVar 2))
    (sNx))) (sNx))
    (sSq (sAs (eOp modM (eCall intM (aCons (eOp addM (eOp addM (eOp mulM (eOp ixM (eVar 0) (eC (.int 0))) (eC (.int 48017))) (eOp mulM (eOp ixM (eVar 0) (eC (.int 2))) (eC (.int 80021)))) (eOp mulM (eOp divM (eOp ixM (eVar 0) (eC (.int 0))) (eC (.int 5003))) (eC (.int 41)))) (aNil))) (eC (.int 1999999751))) (gSb (eVar 0) (eC (.int 0))))
    (sSq (sRt (eOp modM (eCall intM (aCons (eOp divM (eOp ixM (eVar 0) (eC (.int 0))) (eC (.int 281))) (aNil))) (eVar 1)))
    (sNx))))
noncomputable def D__law_one (S : Nat → Fn) : DS :=
  sSq (sRt (eOp ixM (eVar 1) (eCall (S F__law_drop) (aCons (eVar 0) (aCons (eCall (lenI (tbOf sp_len S)) (aCons (eVar 1) (aNil))) (aNil))))))
    (sNx)
noncomputable def D__law_outcome (v : SV) : DS :=
  sSq (sTryN (sSq (sAs (eCallV 0 v.ar 0 v.S aNil) (gNm 1))
    (sNx)) [(tt_InvalidCosts, asN 2 (fRet C_InvalidCosts "InvalidCosts" "index")), (tt_InvalidRiders, asN 2 (fRet C_InvalidRiders "InvalidRiders" "index")), (tt_TooMany, asN 2 (fRet C_TooMany "TooMany" "limit"))])
    (sSq (sRt (eLst (aCons (eC (.str "given")) (aCons (eVar 1) (aNil)))))
    (sNx))
noncomputable def D__law_bad_prices (S : Nat → Fn) : DS :=
  sSq (sPr 1 2 (aCons (eCall (S F__law_one) (aCons (eVar 0) (aCons (eLst (aCons (eC .non) (aCons (eUn negM (eC (.int 1))) (aCons (eC (.bl true)) (aCons (eC (.str "3")) (aCons (eTup (aCons (eC (.int 3)) (aNil))) (aCons (eOp addM (eOp powM (eC (.int 10)) (eC (.int 6))) (eC (.int 1))) (aCons (eLst (aNil)) (aCons (eOp powM (eC (.int 10)) (eC (.int 19))) (aNil)))))))))) (aNil)))) (aCons (eCall (S F__law_drop) (aCons (eVar 0) (aCons (eC (.int 4)) (aNil)))) (aNil))))
    (sSq (sAs (eLst (aCons (eTup (aCons (eC .non) (aCons (eC .non) (aNil)))) (aCons (eTup (aCons (eLst (aCons (eC (.int 1)) (aCons (eC (.int 2)) (aNil)))) (aCons (eC .non) (aNil)))) (aCons (eTup (aCons (eTup (aNil)) (aCons (eC .non) (aNil)))) (aCons (eTup (aCons (eOp mulM (eTup (aCons (eC (.int 1)) (aNil))) (eC (.int 13))) (aCons (eC .non) (aNil)))) (aCons (eTup (aCons (eC (.str "12")) (aCons (eC .non) (aNil)))) (aNil))))))) (gNm 3))
    (sSq (sEx (eApp (eVar 3) (eTup (aCons (eOp addM (eSl (eTup (aCons (eC (.int 1)) (aCons (eC (.int 2)) (aCons (eC (.int 3)) (aNil))))) (oNone) (oSome (eVar 2))) (eTup (aCons (eVar 1) (aCons (eC .non) (aNil))))) (aCons (eVar 2) (aNil))))))
    (sSq (sRt (eCall (S F__law_one) (aCons (eVar 0) (aCons (eOp addM (eVar 3) (eLst (aCons (eTup (aCons (eDct) (aCons (eC .non) (aNil)))) (aCons (eTup (aCons (eC (.int 5)) (aCons (eC .non) (aNil)))) (aCons (eTup (aCons (eTup (aCons (eVar 1) (aNil))) (aCons (eC (.int 0)) (aNil)))) (aNil)))))) (aNil)))))
    (sNx))))
noncomputable def D__law_bad_folk (S : Nat → Fn) : DS :=
  sSq (sPr 1 2 (aCons (eTup (aCons (eC (.int 0)) (aCons (eC (.int 3)) (aCons (eC (.int 1)) (aNil))))) (aCons (eCall (S F__law_drop) (aCons (eVar 0) (aCons (eC (.int 4)) (aNil)))) (aNil))))
    (sSq (sAs (eLst (aCons (eC .non) (aCons (eTup (aCons (eC (.int 0)) (aCons (eC (.int 3)) (aNil)))) (aCons (eLst (aCons (eC (.int 0)) (aCons (eC (.int 3)) (aCons (eC (.int 1)) (aNil))))) (aCons (eTup (aCons (eC (.int 0)) (aCons (eC (.int 4)) (aCons (eC (.int 1)) (aNil))))) (aCons (eTup (aCons (eC (.int 2)) (aCons (eC (.int 2)) (aCons (eC (.int 0)) (aNil))))) (aCons (eTup (aCons (eUn negM (eC (.int 1))) (aCons (eC (.int 2)) (aCons (eC (.int 0)) (aNil))))) (aCons (eTup (aCons (eC (.int 0)) (aCons (eC (.int 1)) (aCons (eC (.int 10)) (aNil))))) (aCons (eTup (aCons (eC (.int 0)) (aCons (eC (.int 1)) (aCons (eUn negM (eC (.int 1))) (aNil))))) (aCons (eTup (aCons (eC (.bl true)) (aCons (eC (.int 2)) (aCons (eC (.int 0)) (aNil))))) (aNil))))))))))) (gNm 3))
    (sSq (sEx (eApp (eVar 3) (eTup (aCons (eC (.int 0)) (aCons (eC (.bl true)) (aCons (eC (.int 0)) (aNil)))))))
    (sSq (sAs (eCall (S F__law_one) (aCons (eVar 0) (aCons (eOp addM (eVar 3) (eLst (aCons (eTup (aCons (eC (.int 3)) (aCons (eC (.int 4)) (aCons (eC (.int 0)) (aNil))))) (aCons (eTup (aCons (eC (.int 1)) (aCons (eC (.int 0)) (aCons (eC (.int 0)) (aNil))))) (aCons (eTup (aCons (eC (.str "0")) (aCons (eC (.int 1)) (aCons (eC (.int 1)) (aNil))))) (aCons (eTup (aCons (eC (.int 0)) (aCons (eC (.int 1)) (aCons (eC .non) (aNil))))) (aCons (eTup (aCons (eC (.int 0)) (aCons (eC (.int 1)) (aCons (eC (.int 0)) (aCons (eC (.int 0)) (aNil)))))) (aCons (eDct) (aNil))))))))) (aNil)))) (gNm 3))
    (sSq (sAs (eLst (aCons (eTup (aCons (eC .non) (aCons (eC .non) (aNil)))) (aCons (eTup (aCons (eLst (aCons (eVar 1) (aNil))) (aCons (eC .non) (aNil)))) (aCons (eTup (aCons (eTup (aNil)) (aCons (eC .non) (aNil)))) (aCons (eTup (aCons (eOp mulM (eTup (aCons (eVar 1) (aNil))) (eC (.int 7))) (aCons (eC .non) (aNil)))) (aCons (eTup (aCons (eVar 1) (aCons (eC (.int 0)) (aNil)))) (aCons (eTup (aCons (eOp addM (eOp mulM (eTup (aCons (eVar 1) (aNil))) (eVar 2)) (eTup (aCons (eVar 3) (aCons (eC .non) (aNil))))) (aCons (eVar 2) (aNil)))) (aNil)))))))) (gNm 4))
    (sSq (sRt (eCall (S F__law_one) (aCons (eVar 0) (aCons (eOp addM (eVar 4) (eLst (aCons (eTup (aCons (eC (.str "riders")) (aCons (eC .non) (aNil)))) (aCons (eTup (aCons (eTup (aCons (eVar 3) (aNil))) (aCons (eC (.int 0)) (aNil)))) (aNil))))) (aNil)))))
    (sNx))))))
noncomputable def D__law_right (v : SV) : DS :=
  sSq (sAs (eTup (aCons (eTup (aCons (eC (.int 1)) (aCons (eC (.int 2)) (aCons (eC (.int 3)) (aNil))))) (aCons (eTup (aCons (eTup (aCons (eC (.int 0)) (aCons (eC (.int 3)) (aCons (eC (.int 1)) (aNil))))) (aCons (eTup (aCons (eC (.int 1)) (aCons (eC (.int 2)) (aCons (eC (.int 0)) (aNil))))) (aNil)))) (aNil)))) (gTp (gCn (gNm 1) (gCn (gNm 2) (gNl))) 2))
    (sSq (sAs (eTup (aCons (eCall (v.S F__law_bad_prices) (aCons (eVar 0) (aNil))) (aCons (eCall (v.S F__law_bad_folk) (aCons (eVar 0) (aNil))) (aNil)))) (gTp (gCn (gTp (gCn (gNm 3) (gCn (gNm 4) (gNl))) 2) (gCn (gTp (gCn (gNm 5) (gCn (gNm 6) (gNl))) 2) (gNl))) 2))
    (sSq (sAs (eLst (aCons (eOp mulM (eTup (aCons (eTup (aCons (eC (.int 0)) (aCons (eC (.int 3)) (aCons (eC (.int 1)) (aNil))))) (aNil))) (eC (.int 5))) (aCons (eOp addM (eOp mulM (eTup (aCons (eTup (aCons (eC (.int 0)) (aCons (eC (.int 2)) (aCons (eC (.int 0)) (aNil))))) (aNil))) (eC (.int 3))) (eOp mulM (eTup (aCons (eTup (aCons (eC (.int 1)) (aCons (eC (.int 3)) (aCons (eC (.int 0)) (aNil))))) (aNil))) (eC (.int 2)))) (aCons (eOp mulM (eTup (aCons (eTup (aCons (eC (.int 2)) (aCons (eC (.int 3)) (aCons (eC (.int 9)) (aNil))))) (aNil))) (eC (.int 6))) (aNil))))) (gNm 7))
    (sSq (sAs (eCall (v.S F__law_one) (aCons (eVar 0) (aCons (eVar 7) (aNil)))) (gNm 8))
    (sSq (sAs (eLst (aCons (eCallL v F__law_outcome 1 (lamM (eCall (mkM (v.B F_Ride___init__) C_Ride) (aCons (eVar 3) (aCons (eVar 5) (aNil)))) [false, false, false, true, false, true, false, false, false, false, false, false] 0) 0 (aNil)) (aNil))) (gNm 9))
    (sSq (sEx (eApp (eVar 9) (eCallL v F__law_outcome 1 (lamM (eCall (mkM (v.B F_Ride___init__) C_Ride) (aCons (eVar 1) (aCons (eVar 5) (aNil)))) [false, true, false, false, false, true, false, false, false, false, false, false] 0) 0 (aNil))))
    (sSq (sEx (eApp (eVar 9) (eCallL v F__law_outcome 1 (lamM (eCall (mkM (v.B F_Ride___init__) C_Ride) (aCons (eVar 1) (aCons (eVar 8) (aNil)))) [false, true, false, false, false, false, false, false, true, false, false, false] 0) 0 (aNil))))
    (sSq (sEx (eApp (eVar 9) (eCallL v F__law_outcome 1 (lamM (eCallK (fun xs zs st => mkM (fun ys st => v.B F_Ride___init__ (arrG .non sh_Ride___init___1_riders_costs ys zs []) st) C_Ride xs st) aNil (aCons (eVar 2) (aCons (eVar 3) (aNil)))) [false, false, true, true, false, false, false, false, false, false, false, false] 0) 0 (aNil))))
    (sSq (sAs (eLst (aCons (eLst (aCons (eC (.str "InvalidCosts")) (aCons (eVar 4) (aCons (eC (.bl true)) (aNil))))) (aCons (eLst (aCons (eC (.str "InvalidRiders")) (aCons (eVar 6) (aCons (eC (.bl true)) (aNil))))) (aCons (eLst (aCons (eC (.str "TooMany")) (aCons (eC (.int 4)) (aCons (eC (.bl true)) (aNil))))) (aNil))))) (gNm 10))
    (sSq (sEx (eApp (eVar 10) (eLst (aCons (eC (.str "InvalidCosts")) (aCons (eVar 4) (aCons (eC (.bl true)) (aNil)))))))
    (sSq (sIf (asB (eOp (neI (tbOf sp_eq v.S) os_eq) (eCall (reprI (tbOf sp_repr v.S)) (aCons (eVar 9) (aNil))) (eCall (reprI (tbOf sp_repr v.S)) (aCons (eVar 10) (aNil))))) (sSq (sRt (eC (.bl false)))
    (sNx)) (sNx))
    (sSq (sAs (eOp addM (eOp mulM (eTup (aCons (eTup (aCons (eC (.int 0)) (aCons (eC (.int 1)) (aCons (eC (.int 0)) (aNil))))) (aNil))) (eC (.int 4))) (eOp mulM (eTup (aCons (eTup (aCons (eC (.int 1)) (aCons (eC (.int 3)) (aCons (eC (.int 9)) (aNil))))) (aNil))) (eC (.int 2)))) (gNm 11))
    (sSq (sRt (eOp (eqI (tbOf sp_eq v.S) os_eq) (eLst (aCons (eOp ixM (eFld A_costs "costs" (eCall (mkM (v.S F_Ride___init__) C_Ride) (aCons (eOp mulM (eTup (aCons (eOp powM (eC (.int 10)) (eC (.int 6))) (aNil))) (eC (.int 12))) (aCons (eTup (aCons (eTup (aCons (eC (.int 0)) (aCons (eC (.int 12)) (aCons (eC (.int 9)) (aNil))))) (aNil))) (aNil))))) (eC (.int 11))) (aCons (eCall (lenI (tbOf sp_len v.S)) (aCons (eCall (mkM (v.S F_Ride___init__) C_Ride) (aCons (eVar 1) (aCons (eVar 11) (aNil)))) (aNil))) (aCons (eCall (lenI (tbOf sp_len v.S)) (aCons (eCall (mkM (v.S F_Ride___init__) C_Ride) (aCons (eTup (aCons (eC (.int 0)) (aNil))) (aCons (eTup (aCons (eTup (aCons (eC (.int 0)) (aCons (eC (.int 1)) (aCons (eC (.int 0)) (aNil))))) (aNil))) (aNil)))) (aNil))) (aNil))))) (eLst (aCons (eOp powM (eC (.int 10)) (eC (.int 6))) (aCons (eC (.int 6)) (aCons (eC (.int 1)) (aNil)))))))
    (sNx)))))))))))))
noncomputable def D_law (S : Nat → Fn) : DS :=
  sSq (sRt (eFu allL (eLc (iR1 (aCons (eCall maxM (aCons (eC (.int 2)) (aCons (eCall minM (aCons (eCall (lenI (tbOf sp_len S)) (aCons (eVar 0) (aNil))) (aCons (eC (.int 5)) (aNil)))) (aNil)))) (aNil))) (.one 1) (bYes) (eCall (S F__law_right) (aCons (eCall (S F__law_jug) (aCons (eVar 0) (aCons (eVar 1) (aNil)))) (aNil))) [1])))
    (sNx)
noncomputable def den (j : Nat) (v : SV) : DS := ([(fun v => D_is_integer v.S), (fun v => D_is_between v.S), (fun v => D_check_costs v.S), (fun v => D_is_rider v.S), (fun v => D_check_riders v.S), (fun v => D_aboard_at v.S), (fun v => D_is_crowded v.S), (fun v => D_Ride___init__ v.S), (fun v => D_Ride___len__ v.S), (fun v => D_Ride___eq__ v.S), (fun v => D_Ride___repr__ v.S), (fun v => D__law_jug v.S), (fun v => D__law_drop v.S), (fun v => D__law_one v.S), D__law_outcome, (fun v => D__law_bad_prices v.S), (fun v => D__law_bad_folk v.S), D__law_right, (fun v => D_law v.S)] : List (SV → DS)).getD j (fun _ => sNo) v
noncomputable abbrev sem (k : Nat) (C : CE) (j : Nat) : Fn := semL DT den k C j
noncomputable abbrev sv (k : Nat) (C : CE) : SV := svAt DT den k C
theorem at_is_integer (k : Nat) (C : CE) : sem (k + 1) C F_is_integer = defM 1 (D_is_integer (sem k C)) := sem_at (d := dt_is_integer) rfl (by decide)
theorem at_is_between (k : Nat) (C : CE) : sem (k + 1) C F_is_between = defM 3 (D_is_between (sem k C)) := sem_at (d := dt_is_between) rfl (by decide)
theorem at_check_costs (k : Nat) (C : CE) : sem (k + 1) C F_check_costs = defM 3 (D_check_costs (sem k C)) := sem_at (d := dt_check_costs) rfl (by decide)
theorem at_is_rider (k : Nat) (C : CE) : sem (k + 1) C F_is_rider = defM 2 (D_is_rider (sem k C)) := sem_at (d := dt_is_rider) rfl (by decide)
theorem at_check_riders (k : Nat) (C : CE) : sem (k + 1) C F_check_riders = defM 4 (D_check_riders (sem k C)) := sem_at (d := dt_check_riders) rfl (by decide)
theorem at_aboard_at (k : Nat) (C : CE) : sem (k + 1) C F_aboard_at = defM 4 (D_aboard_at (sem k C)) := sem_at (d := dt_aboard_at) rfl (by decide)
theorem at_is_crowded (k : Nat) (C : CE) : sem (k + 1) C F_is_crowded = defM 3 (D_is_crowded (sem k C)) := sem_at (d := dt_is_crowded) rfl (by decide)
theorem at_Ride___init__ (k : Nat) (C : CE) : sem (k + 1) C F_Ride___init__ = defM 3 (D_Ride___init__ (sem k C)) := sem_at (d := dt_Ride___init__) rfl (by decide)
theorem at_Ride___len__ (k : Nat) (C : CE) : sem (k + 1) C F_Ride___len__ = defM 1 (D_Ride___len__ (sem k C)) := sem_at (d := dt_Ride___len__) rfl (by decide)
theorem at_Ride___eq__ (k : Nat) (C : CE) : sem (k + 1) C F_Ride___eq__ = defM 2 (D_Ride___eq__ (sem k C)) := sem_at (d := dt_Ride___eq__) rfl (by decide)
theorem at_Ride___repr__ (k : Nat) (C : CE) : sem (k + 1) C F_Ride___repr__ = defM 1 (D_Ride___repr__ (sem k C)) := sem_at (d := dt_Ride___repr__) rfl (by decide)
theorem at__law_jug (k : Nat) (C : CE) : sem (k + 1) C F__law_jug = defM 5 (D__law_jug (sem k C)) := sem_at (d := dt__law_jug) rfl (by decide)
theorem at__law_drop (k : Nat) (C : CE) : sem (k + 1) C F__law_drop = defM 3 (D__law_drop (sem k C)) := sem_at (d := dt__law_drop) rfl (by decide)
theorem at__law_one (k : Nat) (C : CE) : sem (k + 1) C F__law_one = defM 2 (D__law_one (sem k C)) := sem_at (d := dt__law_one) rfl (by decide)
theorem at__law_outcome (k : Nat) (C : CE) : sem (k + 1) C F__law_outcome = defM 3 (D__law_outcome (sv k C)) := sem_at (d := dt__law_outcome) rfl (by decide)
theorem at__law_bad_prices (k : Nat) (C : CE) : sem (k + 1) C F__law_bad_prices = defM 4 (D__law_bad_prices (sem k C)) := sem_at (d := dt__law_bad_prices) rfl (by decide)
theorem at__law_bad_folk (k : Nat) (C : CE) : sem (k + 1) C F__law_bad_folk = defM 5 (D__law_bad_folk (sem k C)) := sem_at (d := dt__law_bad_folk) rfl (by decide)
theorem at__law_right (k : Nat) (C : CE) : sem (k + 1) C F__law_right = defM 12 (D__law_right (sv k C)) := sem_at (d := dt__law_right) rfl (by decide)
theorem at_law (k : Nat) (C : CE) : sem (k + 1) C F_law = defM 2 (D_law (sem k C)) := sem_at (d := dt_law) rfl (by decide)
end Kk02
namespace Kk02
open PySem PySem.Spec L2 CS
theorem is_integer_int (k : Nat) (C : CE) (i : Int) (st : Sto) : sem (k + 1) C F_is_integer [.int i] st = ret (.bl true) st := by
  rw [at_is_integer]
  refine def_eq rfl ?_
  simp [D_is_integer, start_def]
theorem is_between_int (k : Nat) (C : CE) (v lo hi : Int) (st : Sto) : sem (k + 2) C F_is_between [.int v, .int lo, .int hi] st = ret (.bl (decide (lo ≤ v) && decide (v ≤ hi))) st := by
  rw [at_is_between]
  refine def_eq rfl ?_
  simp [D_is_between, start_def, is_integer_int]
  grind
abbrev Rdr := Int × Option Int × Int
def stopV : Option Int → MV
  | none => .non
  | some t => .int t
def riderV (r : Rdr) : MV := .tup [.int r.1, stopV r.2.1, .int r.2.2]
def costsV (cs : List Int) : MV := .tup (cs.map .int)
def ridersV (fs : List Rdr) : MV := .tup (fs.map riderV)
inductive Ord where
  | num
  | sat
  | bags
def Ord.s : Ord → Str
  | .num => "number"
  | .sat => "sat"
  | .bags => "bags"
def keyOf (o : Ord) (r : Rdr) : Int := match o with
  | .num => 0
  | .sat => r.1
  | .bags => -r.2.2
def keyAt (o : Ord) (fs : List Rdr) (i : Int) : Int := match fs[i.toNat]? with
  | some r => keyOf o r
  | none => 0
def inB (fs : List Rdr) (i : Nat) : Bool := match fs[i]? with
  | some r => r.2.1.isNone
  | none => false
def insL (fs : List Rdr) : List Nat := (List.range fs.length).filter (inB fs)
def seatsL (o : Ord) (fs : List Rdr) : List Int := (sortIP ((insL fs).map fun (i : Nat) => (keyAt o fs i, (i : Int)))).map (·.2)
theorem s1 : ¬ (("number" : Str) = "sat") := by decide
theorem s2 : ¬ (("bags" : Str) = "sat") := by decide
theorem s3 : ¬ (("bags" : Str) = "number") := by decide
theorem at_rider {fs : List Rdr} {i : Int} {r : Rdr} {st : Sto} (h0 : 0 ≤ i) (h : fs[i.toNat]? = some r) : ixM (.tup (fs.map riderV)) (.int i) st = ret (riderV r) st := m_ixT (at_int h0 (by rw [List.getElem?_map, h]; rfl))
@[simp] theorem rider0 {r : Rdr} {st : Sto} : ixM (riderV r) (.int 0) st = ret (.int r.1) st := by unfold riderV; simp
@[simp] theorem rider1 {r : Rdr} {st : Sto} : ixM (riderV r) (.int 1) st = ret (stopV r.2.1) st := by unfold riderV; simp
@[simp] theorem rider2 {r : Rdr} {st : Sto} : ixM (riderV r) (.int 2) st = ret (.int r.2.2) st := by unfold riderV; simp
theorem isNon_stop {neg : Bool} {o : Option Int} {st : Sto} : isNonM neg (stopV o) .non st = ret (.bl (if neg then !o.isNone else o.isNone)) st := by cases o <;> cases neg <;> rfl
theorem range_filter {p : Nat → Bool} {i : Nat} : (List.range (i + 1)).filter p = (List.range i).filter p ++ if p i then [i] else [] := by
  rw [List.range_succ, List.filter_append]
  congr 1
  by_cases h : p i <;> simp [h]
theorem insL_lt {fs : List Rdr} {i : Nat} (h : i ∈ insL fs) : i < fs.length := List.mem_range.mp (List.mem_filter.mp h).1
theorem low_ints {n : Nat} : ∀ is : List Int, lowVs n (is.map .int) = true
  | [] => rfl
  | a :: as => by rw [List.map_cons]; unfold lowVs; rw [low_ints as]; rfl
end Kk02
namespace Kk02
open PySem PySem.Spec L2 CS
inductive Deed where
  | drive (c : Int)
  | enter (b : Int)
  | leave (i : Nat)
def Deed.v : Deed → MV
  | .drive c => .tup [.str "drive", .int c]
  | .enter b => .tup [.str "enter", .int b]
  | .leave i => .tup [.str "leave", .int i]
def Can (cs : List Int) (fs : List Rdr) : Deed → Prop
  | .drive c => 0 ≤ c ∧ c ≤ 1000000 ∧ cs.length < 12
  | .enter b => 0 ≤ b ∧ b ≤ 9 ∧ (insL fs).length < 4 ∧ fs.length < 6
  | .leave i => ∃ r, fs[i]? = some r ∧ r.2.1 = none ∧ r.1 ≠ cs.length
def nextC (cs : List Int) : Deed → List Int
  | .drive c => cs ++ [c]
  | _ => cs
def outR (fs : List Rdr) (i : Nat) (t : Int) : List Rdr := match fs[i]? with
  | some r => fs.take i ++ (r.1, some t, r.2.2) :: fs.drop (i + 1)
  | none => fs
def nextF (cs : List Int) (fs : List Rdr) : Deed → List Rdr
  | .drive _ => fs
  | .enter b => fs ++ [((cs.length : Int), none, b)]
  | .leave i => outR fs i cs.length
theorem d1 : ¬ (("drive" : Str) = "enter") := by decide
theorem d2 : ¬ (("drive" : Str) = "leave") := by decide
theorem d3 : ¬ (("leave" : Str) = "enter") := by decide
theorem d4 : ¬ (("leave" : Str) = "drive") := by decide
theorem d5 : ¬ (("enter" : Str) = "drive") := by decide
theorem d6 : ¬ (("enter" : Str) = "leave") := by decide
@[simp] theorem len_costs {t : Tb} {cs : List Int} {st : Sto} : lenI t [costsV cs] st = ret (.int cs.length) st := by simp [costsV]
@[simp] theorem len_riders {t : Tb} {rs : List Rdr} {st : Sto} : lenI t [ridersV rs] st = ret (.int rs.length) st := by simp [ridersV]
theorem at_riders {fs : List Rdr} {i : Nat} {r : Rdr} {st : Sto} (h : fs[i]? = some r) : ixM (ridersV fs) (.int i) st = ret (riderV r) st := at_rider (by omega) h
theorem low_costs {n : Nat} (cs : List Int) : lowV n (costsV cs) = true := by unfold costsV lowV; exact low_map (fun _ => rfl) cs
theorem low_rider {n : Nat} (r : Rdr) : lowV n (riderV r) = true := by
  obtain ⟨a, b, c⟩ := r
  cases b <;> rfl
theorem low_riders {n : Nat} (fs : List Rdr) : lowV n (ridersV fs) = true := by unfold ridersV lowV; exact low_map (fun r => low_rider r) fs
end Kk02
namespace Kk02
open PySem PySem.Spec L2 CS
theorem q01 : ¬ (("order" : Str) = "busy") := by decide
theorem w01 : (("order" : Str) == ("busy" : Str)) = false := by decide
theorem q02 : ¬ (("order" : Str) = "past") := by decide
theorem w02 : (("order" : Str) == ("past" : Str)) = false := by decide
theorem q03 : ¬ (("order" : Str) = "stop") := by decide
theorem w03 : (("order" : Str) == ("stop" : Str)) = false := by decide
theorem q04 : ¬ (("order" : Str) = "costs") := by decide
theorem w04 : (("order" : Str) == ("costs" : Str)) = false := by decide
theorem q05 : ¬ (("order" : Str) = "riders") := by decide
theorem w05 : (("order" : Str) == ("riders" : Str)) = false := by decide
theorem q06 : ¬ (("order" : Str) = "seated") := by decide
theorem w06 : (("order" : Str) == ("seated" : Str)) = false := by decide
theorem q10 : ¬ (("busy" : Str) = "order") := by decide
theorem w10 : (("busy" : Str) == ("order" : Str)) = false := by decide
theorem q12 : ¬ (("busy" : Str) = "past") := by decide
theorem w12 : (("busy" : Str) == ("past" : Str)) = false := by decide
theorem q13 : ¬ (("busy" : Str) = "stop") := by decide
theorem w13 : (("busy" : Str) == ("stop" : Str)) = false := by decide
theorem q14 : ¬ (("busy" : Str) = "costs") := by decide
theorem w14 : (("busy" : Str) == ("costs" : Str)) = false := by decide
theorem q15 : ¬ (("busy" : Str) = "riders") := by decide
theorem w15 : (("busy" : Str) == ("riders" : Str)) = false := by decide
theorem q16 : ¬ (("busy" : Str) = "seated") := by decide
theorem w16 : (("busy" : Str) == ("seated" : Str)) = false := by decide
theorem q20 : ¬ (("past" : Str) = "order") := by decide
theorem w20 : (("past" : Str) == ("order" : Str)) = false := by decide
theorem q21 : ¬ (("past" : Str) = "busy") := by decide
theorem w21 : (("past" : Str) == ("busy" : Str)) = false := by decide
theorem q23 : ¬ (("past" : Str) = "stop") := by decide
theorem w23 : (("past" : Str) == ("stop" : Str)) = false := by decide
theorem q24 : ¬ (("past" : Str) = "costs") := by decide
theorem w24 : (("past" : Str) == ("costs" : Str)) = false := by decide
theorem q25 : ¬ (("past" : Str) = "riders") := by decide
theorem w25 : (("past" : Str) == ("riders" : Str)) = false := by decide
theorem q26 : ¬ (("past" : Str) = "seated") := by decide
theorem w26 : (("past" : Str) == ("seated" : Str)) = false := by decide
theorem q30 : ¬ (("stop" : Str) = "order") := by decide
theorem w30 : (("stop" : Str) == ("order" : Str)) = false := by decide
theorem q31 : ¬ (("stop" : Str) = "busy") := by decide
theorem w31 : (("stop" : Str) == ("busy" : Str)) = false := by decide
theorem q32 : ¬ (("stop" : Str) = "past") := by decide
theorem w32 : (("stop" : Str) == ("past" : Str)) = false := by decide
theorem q34 : ¬ (("stop" : Str) = "costs") := by decide
theorem w34 : (("stop" : Str) == ("costs" : Str)) = false := by decide
theorem q35 : ¬ (("stop" : Str) = "riders") := by decide
theorem w35 : (("stop" : Str) == ("riders" : Str)) = false := by decide
theorem q36 : ¬ (("stop" : Str) = "seated") := by decide
theorem w36 : (("stop" : Str) == ("seated" : Str)) = false := by decide
theorem q40 : ¬ (("costs" : Str) = "order") := by decide
theorem w40 : (("costs" : Str) == ("order" : Str)) = false := by decide
theorem q41 : ¬ (("costs" : Str) = "busy") := by decide
theorem w41 : (("costs" : Str) == ("busy" : Str)) = false := by decide
theorem q42 : ¬ (("costs" : Str) = "past") := by decide
theorem w42 : (("costs" : Str) == ("past" : Str)) = false := by decide
theorem q43 : ¬ (("costs" : Str) = "stop") := by decide
theorem w43 : (("costs" : Str) == ("stop" : Str)) = false := by decide
theorem q45 : ¬ (("costs" : Str) = "riders") := by decide
theorem w45 : (("costs" : Str) == ("riders" : Str)) = false := by decide
theorem q46 : ¬ (("costs" : Str) = "seated") := by decide
theorem w46 : (("costs" : Str) == ("seated" : Str)) = false := by decide
theorem q50 : ¬ (("riders" : Str) = "order") := by decide
theorem w50 : (("riders" : Str) == ("order" : Str)) = false := by decide
theorem q51 : ¬ (("riders" : Str) = "busy") := by decide
theorem w51 : (("riders" : Str) == ("busy" : Str)) = false := by decide
theorem q52 : ¬ (("riders" : Str) = "past") := by decide
theorem w52 : (("riders" : Str) == ("past" : Str)) = false := by decide
theorem q53 : ¬ (("riders" : Str) = "stop") := by decide
theorem w53 : (("riders" : Str) == ("stop" : Str)) = false := by decide
theorem q54 : ¬ (("riders" : Str) = "costs") := by decide
theorem w54 : (("riders" : Str) == ("costs" : Str)) = false := by decide
theorem q56 : ¬ (("riders" : Str) = "seated") := by decide
theorem w56 : (("riders" : Str) == ("seated" : Str)) = false := by decide
theorem q60 : ¬ (("seated" : Str) = "order") := by decide
theorem w60 : (("seated" : Str) == ("order" : Str)) = false := by decide
theorem q61 : ¬ (("seated" : Str) = "busy") := by decide
theorem w61 : (("seated" : Str) == ("busy" : Str)) = false := by decide
theorem q62 : ¬ (("seated" : Str) = "past") := by decide
theorem w62 : (("seated" : Str) == ("past" : Str)) = false := by decide
theorem q63 : ¬ (("seated" : Str) = "stop") := by decide
theorem w63 : (("seated" : Str) == ("stop" : Str)) = false := by decide
theorem q64 : ¬ (("seated" : Str) = "costs") := by decide
theorem w64 : (("seated" : Str) == ("costs" : Str)) = false := by decide
theorem q65 : ¬ (("seated" : Str) = "riders") := by decide
theorem w65 : (("seated" : Str) == ("riders" : Str)) = false := by decide
def cabF (o : Ord) (past : List MV) (cs : List Int) (fs : List Rdr) : List (Str × MV) := [("order", .str o.s), ("busy", .bl false), ("past", .tup past), ("stop", .int cs.length), ("costs", costsV cs), ("riders", ridersV fs), ("seated", .tup ((seatsL o fs).map .int))]
theorem f_order {o : Ord} {past : List MV} {cs : List Int} {fs : List Rdr} : List.lookup ("order" : Str) (cabF o past cs fs) = some (MV.str o.s) := by simp [cabF, List.lookup]
theorem f_busy {o : Ord} {past : List MV} {cs : List Int} {fs : List Rdr} : List.lookup ("busy" : Str) (cabF o past cs fs) = some (MV.bl false) := by simp [cabF, List.lookup, w01, w02, w03, w04, w05, w06, w10, w12, w13, w14, w15, w16, w20, w21, w23, w24, w25, w26, w30, w31, w32, w34, w35, w36, w40, w41, w42, w43, w45, w46, w50, w51, w52, w53, w54, w56, w60, w61, w62, w63, w64, w65]
theorem f_past {o : Ord} {past : List MV} {cs : List Int} {fs : List Rdr} : List.lookup ("past" : Str) (cabF o past cs fs) = some (MV.tup past) := by simp [cabF, List.lookup, w01, w02, w03, w04, w05, w06, w10, w12, w13, w14, w15, w16, w20, w21, w23, w24, w25, w26, w30, w31, w32, w34, w35, w36, w40, w41, w42, w43, w45, w46, w50, w51, w52, w53, w54, w56, w60, w61, w62, w63, w64, w65]
theorem f_stop {o : Ord} {past : List MV} {cs : List Int} {fs : List Rdr} : List.lookup ("stop" : Str) (cabF o past cs fs) = some (MV.int cs.length) := by simp [cabF, List.lookup, w01, w02, w03, w04, w05, w06, w10, w12, w13, w14, w15, w16, w20, w21, w23, w24, w25, w26, w30, w31, w32, w34, w35, w36, w40, w41, w42, w43, w45, w46, w50, w51, w52, w53, w54, w56, w60, w61, w62, w63, w64, w65]
theorem f_costs {o : Ord} {past : List MV} {cs : List Int} {fs : List Rdr} : List.lookup ("costs" : Str) (cabF o past cs fs) = some (costsV cs) := by simp [cabF, List.lookup, w01, w02, w03, w04, w05, w06, w10, w12, w13, w14, w15, w16, w20, w21, w23, w24, w25, w26, w30, w31, w32, w34, w35, w36, w40, w41, w42, w43, w45, w46, w50, w51, w52, w53, w54, w56, w60, w61, w62, w63, w64, w65]
theorem f_riders {o : Ord} {past : List MV} {cs : List Int} {fs : List Rdr} : List.lookup ("riders" : Str) (cabF o past cs fs) = some (ridersV fs) := by simp [cabF, List.lookup, w01, w02, w03, w04, w05, w06, w10, w12, w13, w14, w15, w16, w20, w21, w23, w24, w25, w26, w30, w31, w32, w34, w35, w36, w40, w41, w42, w43, w45, w46, w50, w51, w52, w53, w54, w56, w60, w61, w62, w63, w64, w65]
theorem f_seated {o : Ord} {past : List MV} {cs : List Int} {fs : List Rdr} : List.lookup ("seated" : Str) (cabF o past cs fs) = some (MV.tup ((seatsL o fs).map .int)) := by simp [cabF, List.lookup, w01, w02, w03, w04, w05, w06, w10, w12, w13, w14, w15, w16, w20, w21, w23, w24, w25, w26, w30, w31, w32, w34, w35, w36, w40, w41, w42, w43, w45, w46, w50, w51, w52, w53, w54, w56, w60, w61, w62, w63, w64, w65]
end Kk02
namespace Kk02
open PySem PySem.Spec L2 CS
theorem x_show0 : (("show" : Str) == ("order" : Str)) = false := by decide
theorem x_show1 : (("show" : Str) == ("busy" : Str)) = false := by decide
theorem x_show2 : (("show" : Str) == ("past" : Str)) = false := by decide
theorem x_show3 : (("show" : Str) == ("stop" : Str)) = false := by decide
theorem x_show4 : (("show" : Str) == ("costs" : Str)) = false := by decide
theorem x_show5 : (("show" : Str) == ("riders" : Str)) = false := by decide
theorem x_show6 : (("show" : Str) == ("seated" : Str)) = false := by decide
theorem n_show {o : Ord} {past : List MV} {cs : List Int} {fs : List Rdr} : List.lookup ("show" : Str) (cabF o past cs fs) = none := by simp [cabF, List.lookup, x_show0, x_show1, x_show2, x_show3, x_show4, x_show5, x_show6]
theorem x_do_deed0 : (("do_deed" : Str) == ("order" : Str)) = false := by decide
theorem x_do_deed1 : (("do_deed" : Str) == ("busy" : Str)) = false := by decide
theorem x_do_deed2 : (("do_deed" : Str) == ("past" : Str)) = false := by decide
theorem x_do_deed3 : (("do_deed" : Str) == ("stop" : Str)) = false := by decide
theorem x_do_deed4 : (("do_deed" : Str) == ("costs" : Str)) = false := by decide
theorem x_do_deed5 : (("do_deed" : Str) == ("riders" : Str)) = false := by decide
theorem x_do_deed6 : (("do_deed" : Str) == ("seated" : Str)) = false := by decide
theorem n_do_deed {o : Ord} {past : List MV} {cs : List Int} {fs : List Rdr} : List.lookup ("do_deed" : Str) (cabF o past cs fs) = none := by simp [cabF, List.lookup, x_do_deed0, x_do_deed1, x_do_deed2, x_do_deed3, x_do_deed4, x_do_deed5, x_do_deed6]
theorem x_check_free0 : (("check_free" : Str) == ("order" : Str)) = false := by decide
theorem x_check_free1 : (("check_free" : Str) == ("busy" : Str)) = false := by decide
theorem x_check_free2 : (("check_free" : Str) == ("past" : Str)) = false := by decide
theorem x_check_free3 : (("check_free" : Str) == ("stop" : Str)) = false := by decide
theorem x_check_free4 : (("check_free" : Str) == ("costs" : Str)) = false := by decide
theorem x_check_free5 : (("check_free" : Str) == ("riders" : Str)) = false := by decide
theorem x_check_free6 : (("check_free" : Str) == ("seated" : Str)) = false := by decide
theorem n_check_free {o : Ord} {past : List MV} {cs : List Int} {fs : List Rdr} : List.lookup ("check_free" : Str) (cabF o past cs fs) = none := by simp [cabF, List.lookup, x_check_free0, x_check_free1, x_check_free2, x_check_free3, x_check_free4, x_check_free5, x_check_free6]
theorem x_enter0 : (("enter" : Str) == ("order" : Str)) = false := by decide
theorem x_enter1 : (("enter" : Str) == ("busy" : Str)) = false := by decide
theorem x_enter2 : (("enter" : Str) == ("past" : Str)) = false := by decide
theorem x_enter3 : (("enter" : Str) == ("stop" : Str)) = false := by decide
theorem x_enter4 : (("enter" : Str) == ("costs" : Str)) = false := by decide
theorem x_enter5 : (("enter" : Str) == ("riders" : Str)) = false := by decide
theorem x_enter6 : (("enter" : Str) == ("seated" : Str)) = false := by decide
theorem n_enter {o : Ord} {past : List MV} {cs : List Int} {fs : List Rdr} : List.lookup ("enter" : Str) (cabF o past cs fs) = none := by simp [cabF, List.lookup, x_enter0, x_enter1, x_enter2, x_enter3, x_enter4, x_enter5, x_enter6]
theorem x_leave0 : (("leave" : Str) == ("order" : Str)) = false := by decide
theorem x_leave1 : (("leave" : Str) == ("busy" : Str)) = false := by decide
theorem x_leave2 : (("leave" : Str) == ("past" : Str)) = false := by decide
theorem x_leave3 : (("leave" : Str) == ("stop" : Str)) = false := by decide
theorem x_leave4 : (("leave" : Str) == ("costs" : Str)) = false := by decide
theorem x_leave5 : (("leave" : Str) == ("riders" : Str)) = false := by decide
theorem x_leave6 : (("leave" : Str) == ("seated" : Str)) = false := by decide
theorem n_leave {o : Ord} {past : List MV} {cs : List Int} {fs : List Rdr} : List.lookup ("leave" : Str) (cabF o past cs fs) = none := by simp [cabF, List.lookup, x_leave0, x_leave1, x_leave2, x_leave3, x_leave4, x_leave5, x_leave6]
theorem x_drive0 : (("drive" : Str) == ("order" : Str)) = false := by decide
theorem x_drive1 : (("drive" : Str) == ("busy" : Str)) = false := by decide
theorem x_drive2 : (("drive" : Str) == ("past" : Str)) = false := by decide
theorem x_drive3 : (("drive" : Str) == ("stop" : Str)) = false := by decide
theorem x_drive4 : (("drive" : Str) == ("costs" : Str)) = false := by decide
theorem x_drive5 : (("drive" : Str) == ("riders" : Str)) = false := by decide
theorem x_drive6 : (("drive" : Str) == ("seated" : Str)) = false := by decide
theorem n_drive {o : Ord} {past : List MV} {cs : List Int} {fs : List Rdr} : List.lookup ("drive" : Str) (cabF o past cs fs) = none := by simp [cabF, List.lookup, x_drive0, x_drive1, x_drive2, x_drive3, x_drive4, x_drive5, x_drive6]
theorem n_show2 {o : Ord} : List.lookup ("show" : Str) [(("order" : Str), MV.str o.s), ("busy", MV.bl false)] = none := by simp [List.lookup, x_show0, x_show1]
end Kk02
namespace Kk02
open PySem PySem.Spec L2 CS
theorem seats_len {o : Ord} {fs : List Rdr} : (seatsL o fs).length = (insL fs).length := by
  unfold seatsL sortIP
  rw [List.length_map, List.length_mergeSort, List.length_map]
def ansOf (cs : List Int) (fs : List Rdr) : Deed → Int
  | .drive _ => cs.length
  | .enter _ => fs.length
  | .leave i => (insL (nextF cs fs (.leave i))).length
def textC (n m : Int) : Str := ((((("Cab(stop " : Str) ++ (toString n : Str)) ++ (", " : Str)) ++ (toString m : Str)) ++ (" riders)" : Str))
theorem text_facts : ∀ n : Nat, n < 13 → ∀ m : Nat, m < 7 → PyData.strOk (textC n m) = true ∧ (textC n m).length ≤ 60 := by decide +kernel
end Kk02
namespace Kk02
open PySem PySem.Spec L2 CS
theorem list_app {st t : Sto} {i : Nat} {xs : List MV} (h : CS.listOf st i = some xs) : CS.listOf (st ++ t) i = some xs := (Fr.app (S := []) Fr.refl t).list h (by simp)
theorem rider_in {fs : List Rdr} {i : Nat} {f : Nat} {st : Sto} (hL : CS.listOf st f = some (fs.map riderV)) (hi : i < fs.length) : ixM (.ref f) (.int i) st = ret (riderV fs[i]) st := m_ixR hL (at_nat (by simp [hi]))
def worth : Ord → Int
  | .num => 0
  | .sat => 1
  | .bags => 2
theorem t0 : (("number" : Str) == "number") = true := by decide
theorem t1 : (("sat" : Str) == "number") = false := by decide
theorem t2 : (("sat" : Str) == "sat") = true := by decide
theorem t3 : (("bags" : Str) == "number") = false := by decide
theorem t4 : (("bags" : Str) == "sat") = false := by decide
theorem t5 : (("bags" : Str) == "bags") = true := by decide
theorem look_worth (o : Ord) : List.lookup o.s [(("number" : Str), MV.int 0), ("sat", .int 1), ("bags", .int 2)] = some (.int (worth o)) := by
  cases o <;> simp [Ord.s, worth, List.lookup, t1, t3, t4]
theorem key_pick (o : Ord) (r : Rdr) (st : Sto) (n : Nat) (h : CS.listOf st n = some [.int 0, .int r.1, .int (0 - r.2.2)]) : ixM (.ref n) (.int (worth o)) st = ret (.int (keyOf o r)) st := by
  cases o with
  | num => exact m_ixR h (at_int (by decide) rfl)
  | sat => exact m_ixR h (at_int (by decide) rfl)
  | bags =>
    have e : keyOf .bags r = 0 - r.2.2 := by unfold keyOf; simp
    rw [e]
    exact m_ixR h (at_int (by decide) rfl)
end Kk02
namespace Kk02
open PySem PySem.Spec L2 CS
def Wld (j w : Nat) (st : Sto) (o : Ord) (cs : List Int) (fs : List Rdr) : Prop := ∃ p f, p ≠ j ∧ f ≠ j ∧ p ≠ w ∧ f ≠ w ∧ st[w]? = some (.lst [.str o.s, .ref p, .ref f]) ∧ st[p]? = some (.lst (cs.map .int)) ∧ st[f]? = some (.lst (fs.map riderV))
theorem at3 {st : Sto} {w : Nat} {a b c : MV} {t : Sto} (h : st[w]? = some (.lst [a, b, c])) : (st ++ t)[w]? = some (.lst [a, b, c]) := by
  rw [List.getElem?_append_left (List.getElem?_eq_some_iff.mp h).1]
  exact h
theorem at_app {st : Sto} {w : Nat} {a : MO} {t : Sto} (h : st[w]? = some a) : (st ++ t)[w]? = some a := by
  rw [List.getElem?_append_left (List.getElem?_eq_some_iff.mp h).1]
  exact h
theorem at_set {st : Sto} {w p : Nat} {a b : MO} (h : st[p]? = some a) (hne : p ≠ w) : (st.set w b)[p]? = some a := by
  rw [List.getElem?_set_ne (Ne.symm hne)]
  exact h
theorem refs_ne {a : MV} {n m k : Nat} (h : m ≠ k) : MO.lst [a, .ref n, .ref m] ≠ .lst [a, .ref n, .ref k] := fun e => by
  injection e with e
  simp at e
  exact h e
theorem refs_ne1 {a c : MV} {n m : Nat} (h : n ≠ m) : MO.lst [a, .ref n, c] ≠ .lst [a, .ref m, c] := fun e => by
  injection e with e
  simp at e
  exact h e
theorem low3 {n p f : Nat} {a : MV} (h : n ≤ p ∨ n ≤ f) : lowO n (.lst [a, .ref p, .ref f]) = false := by
  unfold lowO
  simp [lowVs, lowV]
  omega
end Kk02
namespace Kk02
open PySem PySem.Spec L2 CS
theorem ne_ints {t : Tb} {os : List Nat} {st : Sto} {f q : Nat} {is : List Nat} (hf : CS.listOf st f = some (is.map fun (i : Nat) => .int i)) (hq : CS.listOf st q = some []) : neI t os (.ref f) (.ref q) st = ret (.bl (!is.isEmpty)) st := by
  unfold neI
  rw [own_lst hf]
  show neM (.ref f) (.ref q) st = _
  unfold neM
  rw [eqD_lists (n := 1) (k := 1) hf hq (plains_map fun _ _ => plain_int) (by simp) (noBls_map fun _ _ => rfl) rfl (by decide) (by decide)]
  cases is <;> rfl
theorem plain_deed {d : Deed} {n : Nat} : plain (n + 1) d.v = true := by
  have h1 : PyData.strOk "drive" = true := by decide +kernel
  have h2 : PyData.strOk "enter" = true := by decide +kernel
  have h3 : PyData.strOk "leave" = true := by decide +kernel
  cases d <;> simp [Deed.v, h1, h2, h3]
theorem noBl_deed {d : Deed} : noBl d.v = true := by cases d <;> rfl
theorem ne_deeds {t : Tb} {os : List Nat} {st : Sto} {f q : Nat} {ds : List Deed} (hf : CS.listOf st f = some (ds.map Deed.v)) (hq : CS.listOf st q = some []) : neI t os (.ref f) (.ref q) st = ret (.bl (!ds.isEmpty)) st := by
  unfold neI
  rw [own_lst hf]
  show neM (.ref f) (.ref q) st = _
  unfold neM
  rw [eqD_lists (n := 2) (k := 1) hf hq (plains_map fun _ _ => plain_deed) (by simp) (noBls_map fun _ _ => noBl_deed) rfl (by decide) (by decide)]
  cases ds <;> rfl
end Kk02
namespace Kk02
open PySem PySem.Spec L2 CS
def readyL (cs : List Int) (fs : List Rdr) : List Nat := (insL fs).filter fun i => match fs[i]? with
  | some r => decide (r.1 < cs.length)
  | none => false
theorem ready_can {cs : List Int} {fs : List Rdr} {i : Nat} (h : i ∈ readyL cs fs) : Can cs fs (.leave i) := by
  obtain ⟨h1, h2⟩ := List.mem_filter.mp h
  have h3 := (List.mem_filter.mp h1).2
  cases q : fs[i]? with
  | none => rw [q] at h2; cases h2
  | some r =>
    rw [q] at h2
    unfold inB at h3
    rw [q] at h3
    have h2 : r.1 < cs.length := of_decide_eq_true h2
    refine ⟨r, q, ?_, by omega⟩
    cases z : r.2.1 with
    | none => rfl
    | some t =>
      have h3 : r.2.1.isNone = true := h3
      rw [z] at h3
      cases h3
structure Fnd (j : Nat) (cs : List Int) (fs : List Rdr) (st0 st : Sto) (q n : Nat) : Prop where
  jg : Jg j st0 st
  ne : q ≠ j
  ex : ∃ ds : List Deed, st[q]? = some (.lst (ds.map Deed.v)) ∧ (∀ d ∈ ds, Can cs fs d) ∧ ds.length ≤ n
end Kk02
namespace Kk02
open PySem PySem.Spec L2 CS
theorem m_mulR2 {st : Sto} {i : Nat} {xs : List MV} (h : st[i]? = some (.lst xs)) (hl : xs.length ≤ 100) : mulM (.ref i) (.int 2) st = ret (.ref st.length) (st ++ [.lst (xs ++ xs)]) := by
  unfold mulM
  simp only [h]
  have z9 : 200 ≤ sizeLine := by decide
  rw [if_pos ⟨by decide, by decide, by show xs.length * 2 ≤ sizeLine; omega⟩]
  have e : (List.replicate (2 : Int).toNat xs).flatten = xs ++ xs := by
    show (List.replicate 2 xs).flatten = _
    simp [List.replicate]
  rw [e]
theorem set_self {ρ : MEnv} {i : Nat} {o : Option MV} (h6 : ρ[i]? = some o) : ρ = ρ.set i o := by
  refine List.ext_getElem? fun j => ?_
  by_cases hi : j = i
  · subst hi
    rw [List.getElem?_set_self (List.getElem?_eq_some_iff.mp h6).1, h6]
  · rw [List.getElem?_set_ne (Ne.symm hi)]
end Kk02
namespace Kk02
open PySem PySem.Spec L2 CS
theorem ready_ok (f w : Nat) (cs : List Int) (fs : List Rdr) (ρ : MEnv) (st : Sto) (h2 : ρ[2]? = some (some (.int cs.length))) (h3 : ρ[3]? = some (some (.ref f))) (h4 : ρ[4]? = some (some (.ref w))) (hl8 : ρ.length = 8) (hw : CS.listOf st w = some ((insL fs).map fun (i : Nat) => .int i)) (hf : CS.listOf st f = some (fs.map riderV)) (hl : fs.length ≤ 100) :
    Wp (eLc (iSq (eVar 4)) (.one 7) (asB (eOp ltM (eOp ixM (eOp ixM (eVar 3) (eVar 7)) (eC (.int 0))) (eVar 2))) (eVar 7) [7] ρ st) fun xs st' => xs = (readyL cs fs).map (fun (i : Nat) => .int i) ∧ st' = st := by
  have li : (insL fs).length ≤ 100 := Nat.le_trans (List.length_filter_le _ _) (by simpa using hl)
  have zl : (insL fs).length ≤ sizeLine := by rw [sizeLine_eq]; omega
  simp only [e_lc, i_sq, e_var, h4, of_ref hw, wp_ret, cnt_sq, len_l, List.length_map, zl, if_true]
  refine wp_lcN (by simp) (fun i acc st' => st' = st ∧ acc = (((insL fs).take i).filter fun i => match fs[i]? with
    | some r => decide (r.1 < cs.length)
    | none => false).map fun (i : Nat) => .int i) ⟨rfl, rfl⟩ (fun i acc st' hi hI => ?_) (fun acc st' hI => ?_)
  · obtain ⟨rfl, rfl⟩ := hI
    have hi : i < (insL fs).length := hi
    have hj : (insL fs)[i] < fs.length := insL_lt (List.getElem_mem hi)
    have hg : IM.get (.sq (.l w (insL fs).length)) i st' = some (.int ((insL fs)[i] : Nat)) := by
      have z := get_l (m := i) hw
      rw [List.length_map] at z
      rw [get_sq, z]
      simp [hi]
    refine ⟨_, _, hg, rfl, ?_⟩
    have htk := List.take_succ_eq_append_getElem hi
    have e1 := rider_in hf hj
    have e3 : fs[(insL fs)[i]]? = some fs[(insL fs)[i]] := by simp [hj]
    revert e1 htk e3
    generalize fs[(insL fs)[i]] = r
    generalize (insL fs)[i] = jj
    intro htk e1 e3
    obtain ⟨ρ1, hρ1⟩ : ∃ ρ1, ρ1 = wipeM ρ [7] := ⟨_, rfl⟩
    have w7 : ∀ m, m ≠ 7 → (wipeM ρ [7])[m]? = ρ[m]? := fun m hm => by
      simp [wipeM]
      rw [List.getElem?_set_ne (Ne.symm hm)]
    have w8 : (wipeM ρ [7]).length = 8 := by simp [wipeM, hl8]
    have v2 : ((wipeM ρ [7]).set 7 (some (.int jj)))[2]? = some (some (.int cs.length)) := by rw [List.getElem?_set_ne (by decide), w7 2 (by decide), h2]
    have v3 : ((wipeM ρ [7]).set 7 (some (.int jj)))[3]? = some (some (.ref f)) := by rw [List.getElem?_set_ne (by decide), w7 3 (by decide), h3]
    have v7 : ((wipeM ρ [7]).set 7 (some (.int jj)))[7]? = some (some (.int jj)) := by rw [List.getElem?_set_self (by omega)]
    rw [htk, List.filter_append]
    simp only [e_as, e_op, e_var, v2, v3, v7, e1, wp_ret, rider0, e_c, m_lt]
    by_cases q : r.1 < cs.length <;> simp [q, e3]
  · obtain ⟨rfl, rfl⟩ := hI
    have z := fin_l hw
    rw [List.length_map] at z
    refine ⟨by rw [fin_sq]; exact z, ?_, rfl⟩
    rw [List.take_length]
    rfl
end Kk02
namespace Kk02
open PySem PySem.Spec L2 CS
def stopOf (r : Rdr) : Int := r.2.1.getD 0
def abB (fs : List Rdr) (t : Int) (i : Nat) : Bool := match fs[i]? with
  | some r => decide (r.1 ≤ t) && (match r.2.1 with | none => true | some s => decide (t < s))
  | none => false
def abL (fs : List Rdr) (t : Int) : List Nat := (List.range fs.length).filter (abB fs t)
def rankL (o : Ord) (fs : List Rdr) (t : Int) : List Int := (sortIP ((abL fs t).map fun (i : Nat) => (keyAt o fs i, (i : Int)))).map (·.2)
structure TrOk (n : Int) (r : Rdr) : Prop where
  ex : ∃ s, r.2.1 = some s ∧ r.1 + 1 ≤ s ∧ s ≤ n
  s0 : 0 ≤ r.1
  s1 : r.1 ≤ n - 1
  b0 : 0 ≤ r.2.2
  b1 : r.2.2 ≤ 9
structure RideOk (cs : List Int) (rs : List Rdr) : Prop where
  c1 : 1 ≤ cs.length
  c2 : cs.length ≤ 12
  c3 : ∀ c ∈ cs, 0 ≤ c ∧ c ≤ 1000000
  r1 : 1 ≤ rs.length
  r2 : rs.length ≤ 6
  r3 : ∀ r ∈ rs, TrOk cs.length r
  cr : ∀ t : Int, 0 ≤ t → t < cs.length → (abL rs t).length ≤ 4
theorem is_rider_ok (k : Nat) (C : CE) (r : Rdr) (n : Int) (st : Sto) (h : TrOk n r) : sem (k + 3) C F_is_rider [riderV r, .int n] st = ret (.bl true) st := by
  obtain ⟨⟨s, hs, h1, h2⟩, h3, h4, h5, h6⟩ := h
  rw [at_is_rider]
  refine def_eq rfl ?_
  have e : riderV r = .tup [.int r.1, .int s, .int r.2.2] := by unfold riderV; rw [hs]; rfl
  rw [e]
  simp [D_is_rider, start_def, is_between_int, h1, h2, h3, h4, h5, h6]
theorem check_costs_ok (k : Nat) (C : CE) (cs : List Int) (st : Sto) (h1 : 1 ≤ cs.length) (h2 : cs.length ≤ 12) (h3 : ∀ c ∈ cs, 0 ≤ c ∧ c ≤ 1000000) : sem (k + 3) C F_check_costs [costsV cs] st = ret .non st := by
  rw [at_check_costs]
  refine def_eqN ?_
  have a1 : (1 : Int) ≤ cs.length := by omega
  have a2 : (cs.length : Int) ≤ 12 := by omega
  simp [D_check_costs, start_def, costsV, a1, a2]
  have : cs.length = IM.cnt (.en (.t (cs.map MV.int))) := by simp
  rw [this]
  refine wp_for (fun i ρ st' => st' = st ∧ ∃ a b, ρ = [some (.tup (cs.map .int)), a, b]) ⟨rfl, none, none, rfl⟩ (fun i ρ st' hi h => ?_) (goes_tup (goes_cons goes_name (goes_cons goes_name goes_nil))) (fun ρ st' h => ?_)
  · obtain ⟨rfl, a, b, rfl⟩ := h
    have hi : i < cs.length := by simpa using hi
    have hc := h3 cs[i] (List.getElem_mem hi)
    simp [hi, is_between_int, hc]
  · obtain ⟨rfl, a, b, rfl⟩ := h
    simp
theorem check_riders_ok (k : Nat) (C : CE) (rs : List Rdr) (n : Int) (st : Sto) (h1 : 1 ≤ rs.length) (h2 : rs.length ≤ 6) (h3 : ∀ r ∈ rs, TrOk n r) : sem (k + 4) C F_check_riders [ridersV rs, .int n] st = ret .non st := by
  rw [at_check_riders]
  refine def_eqN ?_
  have a1 : (1 : Int) ≤ rs.length := by omega
  have a2 : (rs.length : Int) ≤ 6 := by omega
  simp [D_check_riders, start_def, ridersV, a1, a2]
  have : rs.length = IM.cnt (.en (.t (rs.map riderV))) := by simp
  rw [this]
  refine wp_for (fun i ρ st' => st' = st ∧ ∃ a b, ρ = [some (.tup (rs.map riderV)), some (.int n), a, b]) ⟨rfl, none, none, rfl⟩ (fun i ρ st' hi h => ?_) (goes_tup (goes_cons goes_name (goes_cons goes_name goes_nil))) (fun ρ st' h => ?_)
  · obtain ⟨rfl, a, b, rfl⟩ := h
    have hi : i < rs.length := by simpa using hi
    have hc := fun st => is_rider_ok k C rs[i] n st (h3 rs[i] (List.getElem_mem hi))
    simp [hi, hc]
  · obtain ⟨rfl, a, b, rfl⟩ := h
    simp
def zipI (rs : List Rdr) : List (Nat × Rdr) := (List.range rs.length).zip rs
theorem aboard_at_ok (k : Nat) (C : CE) (rs : List Rdr) (n t : Int) (st : Sto) (h : rs.length ≤ 100) (h3 : ∀ r ∈ rs, TrOk n r) : sem (k + 1) C F_aboard_at [ridersV rs, .int t] st = ret (.tup ((abL rs t).map fun (i : Nat) => .int i)) st := by
  rw [at_aboard_at]
  refine def_eq (by unfold lowV; exact low_map (fun _ => rfl) _) ?_
  simp [D_aboard_at, start_def, ridersV, wipeM]
  refine ⟨by rw [sizeLine_eq]; omega, ?_⟩
  refine wp_lcN (by simp) (fun i acc st' => st' = st ∧ acc = ((List.range i).filter (abB rs t)).map fun (i : Nat) => .int i) ⟨rfl, rfl⟩ (fun i acc st' hi hI => ?_) (fun acc st' hI => ?_)
  · obtain ⟨rfl, rfl⟩ := hI
    refine ⟨_, _, get_mapE hi, rfl, ?_⟩
    obtain ⟨s, hs, _⟩ := (h3 rs[i] (List.getElem_mem hi)).ex
    have hb : abB rs t i = (decide (rs[i].1 ≤ t) && decide (t < s)) := by unfold abB; simp [hi, hs]
    rw [range_filter, hb]
    have e : ∀ st, ixM (riderV rs[i]) (.int 1) st = ret (.int s) st := fun st => by rw [rider1, hs]; rfl
    by_cases q1 : rs[i].1 ≤ t <;> by_cases q2 : t < s <;> simp [q1, q2, e, -rider1]
  · obtain ⟨rfl, rfl⟩ := hI
    refine ⟨by simp, ?_⟩
    exact ⟨rfl, [], by simp⟩
theorem abL_lt {fs : List Rdr} {t : Int} {i : Nat} (h : i ∈ abL fs t) : i < fs.length := List.mem_range.mp (List.mem_filter.mp h).1
theorem abL_len {fs : List Rdr} {t : Int} : (abL fs t).length ≤ fs.length := Nat.le_trans (List.length_filter_le _ _) (by simp)
end Kk02
namespace Kk02
open PySem PySem.Spec L2 CS
theorem is_crowded_no (k : Nat) (C : CE) (rs : List Rdr) (n : Int) (st : Sto) (h : rs.length ≤ 100) (h0 : 0 ≤ n) (hn : n ≤ 1000) (h3 : ∀ r ∈ rs, TrOk n r) (hc : ∀ t : Int, 0 ≤ t → t < n → (abL rs t).length ≤ 4) : sem (k + 2) C F_is_crowded [.int n, ridersV rs] st = ret (.bl false) st := by
  rw [at_is_crowded]
  refine def_eq rfl ?_
  simp [D_is_crowded, start_def, wipeM]
  refine ⟨by omega, by rw [sizeLine_eq]; omega, ?_⟩
  refine wp_lcN rfl (fun i acc st' => st' = st ∧ acc = (List.replicate i false).map .bl) ⟨rfl, rfl⟩ (fun i acc st' hi hI => ?_) (fun acc st' hI => ?_)
  · obtain ⟨rfl, rfl⟩ := hI
    have hi : i < n.toNat := hi
    refine ⟨_, _, get_rng hi, rfl, ?_⟩
    have e := aboard_at_ok k C rs n i st' h h3
    have := hc i (by omega) (by omega)
    have h4 : ¬ 4 < (abL rs i).length := by omega
    have h5 : ¬ (4 : Int) < (abL rs i).length := by omega
    simp [e, h4, h5, List.replicate_succ']
  · obtain ⟨rfl, rfl⟩ := hI
    rw [anyL_map]
    simp
theorem r04 : ¬ (("costs" : Str) = "told") := by decide
theorem r05 : ¬ (("riders" : Str) = "told") := by decide
theorem r06 : (("told" : Str) == ("costs" : Str)) = false := by decide
theorem r07 : (("told" : Str) == ("riders" : Str)) = false := by decide
def rideF (cs : List Int) (rs : List Rdr) : List (Str × MV) := [("costs", costsV cs), ("riders", ridersV rs), ("told", .tup [costsV cs, ridersV rs])]
def IsRide (st : Sto) (i : Nat) (cs : List Int) (rs : List Rdr) : Prop := st[i]? = some (.ins C_Ride (rideF cs rs))
theorem rf_costs (cs : List Int) (rs : List Rdr) : List.lookup ("costs" : Str) (rideF cs rs) = some (costsV cs) := by simp [rideF, List.lookup]
theorem rf_riders (cs : List Int) (rs : List Rdr) : List.lookup ("riders" : Str) (rideF cs rs) = some (ridersV rs) := by simp [rideF, List.lookup, w54]
theorem rf_told (cs : List Int) (rs : List Rdr) : List.lookup ("told" : Str) (rideF cs rs) = some (MV.tup [costsV cs, ridersV rs]) := by simp [rideF, List.lookup, r06, r07]
theorem rinit_ok (k : Nat) (C : CE) (i : Nat) (cs : List Int) (rs : List Rdr) (st : Sto) (h : RideOk cs rs) (hi : st[i]? = some (.ins C_Ride [])) : sem (k + 5) C F_Ride___init__ [.ref i, costsV cs, ridersV rs] st = ret .non (st.set i (.ins C_Ride (rideF cs rs))) := by
  have key : Wp (sem (k + 5) C F_Ride___init__ [.ref i, costsV cs, ridersV rs] st) fun v st' => v = .non ∧ st' = st.set i (.ins C_Ride (rideF cs rs)) := by
    have e2 : sem (k + 4) C F_check_costs [costsV cs] st = ret .non st := check_costs_ok (k + 1) C cs st h.c1 h.c2 h.c3
    have e3 : sem (k + 4) C F_check_riders [ridersV rs, .int cs.length] st = ret .non st := check_riders_ok k C rs cs.length st h.r1 h.r2 h.r3
    have e4 : sem (k + 4) C F_is_crowded [.int cs.length, ridersV rs] st = ret (.bl false) st := is_crowded_no (k + 2) C rs cs.length st (by have := h.r2; omega) (by omega) (by have := h.c2; omega) h.r3 h.cr
    rw [at_Ride___init__, wp_def]
    simp only [D_Ride___init__, start_def]
    have hg := fun o' => set_get (o' := o') hi
    have p1 : ∀ a b : MV, putM "riders" b (putM "costs" a []) = ([("costs", a), ("riders", b)] : List (Str × MV)) := by simp [putM, q45]
    have p2 : ∀ a : MV, putM "costs" a [] = ([("costs", a)] : List (Str × MV)) := by simp [putM]
    simp [e2, e3, e4, hi, hg, p1, p2, putM, q45, r04, r05, rideF, C_Ride]
    exact Nat.le_trans (by decide) (show 2 ≤ sizeLine by decide)
  obtain ⟨v, st', e, rfl, rfl⟩ := key.get
  exact e
theorem rmake_ok (k : Nat) (C : CE) (cs : List Int) (rs : List Rdr) (st : Sto) (h : RideOk cs rs) : mkM (sem (k + 5) C F_Ride___init__) C_Ride [costsV cs, ridersV rs] st = ret (.ref st.length) (st ++ [.ins C_Ride (rideF cs rs)]) := by
  unfold mkM
  rw [rinit_ok k C st.length cs rs _ h (by simp)]
  show ret (MV.ref st.length) ((st ++ [MO.ins C_Ride []]).set st.length (.ins C_Ride (rideF cs rs))) = _
  rw [List.set_append_right _ _ (Nat.le_refl _)]
  simp
theorem rlen_ok (k : Nat) (C : CE) (i : Nat) (cs : List Int) (rs : List Rdr) (st : Sto) (h : IsRide st i cs rs) : sem (k + 1) C F_Ride___len__ [.ref i] st = ret (.int rs.length) st := by
  rw [at_Ride___len__]
  refine def_eq rfl ?_
  unfold IsRide at h
  simp [D_Ride___len__, start_def, h, rf_riders]
theorem rown {t : Tb} {i : Nat} {cs : List Int} {rs : List Rdr} {st : Sto} (h : IsRide st i cs rs) : ownG t (.ref i) st = t.lookup C_Ride := own_ins h
theorem lenI_ride (k : Nat) (C : CE) (i : Nat) (cs : List Int) (rs : List Rdr) (st : Sto) (h : IsRide st i cs rs) (hr : rs.length ≤ 6) : lenI (tbOf sp_len (sem (k + 1) C)) [.ref i] st = ret (.int rs.length) st := by
  show (match ownG (tbOf sp_len (sem (k + 1) C)) (.ref i) st with
    | some g => bndP (g [.ref i] st) asLen fun n st1 => ret (MV.int n) st1
    | none => lenM [.ref i] st) = _
  rw [rown h]
  show bndP (sem (k + 1) C F_Ride___len__ [.ref i] st) asLen (fun n st1 => ret (MV.int n) st1) = _
  rw [rlen_ok k C i cs rs st h]
  have := asLen_ok (n := (rs.length : Int)) (by omega) (by omega)
  rw [bndP_some this]
theorem plain_rider {r : Rdr} {n : Nat} : plain (n + 1) (riderV r) = true := by
  obtain ⟨a, b, c⟩ := r
  cases b <;> simp [riderV, stopV]
theorem noBl_rider {r : Rdr} : noBl (riderV r) = true := by
  obtain ⟨a, b, c⟩ := r
  cases b <;> rfl
theorem plain_costs {cs : List Int} {n : Nat} : plain (n + 1) (costsV cs) = true := by unfold costsV; rw [plain_tup]; exact plains_map fun _ _ => plain_int
theorem plain_riders {rs : List Rdr} {n : Nat} : plain (n + 2) (ridersV rs) = true := by unfold ridersV; rw [plain_tup]; exact plains_map fun _ _ => plain_rider
theorem noBl_costs {cs : List Int} : noBl (costsV cs) = true := by unfold costsV; exact noBls_map fun _ _ => rfl
theorem noBl_riders {rs : List Rdr} : noBl (ridersV rs) = true := by unfold ridersV; exact noBls_map fun r _ => noBl_rider
abbrev toldV (cs : List Int) (rs : List Rdr) : MV := .tup [costsV cs, ridersV rs]
theorem eq_ride (k : Nat) (C : CE) (i j : Nat) (cs : List Int) (rs : List Rdr) (st : Sto) (h : IsRide st i cs rs) (h' : IsRide st j cs rs) : sem (k + 1) C F_Ride___eq__ [.ref i, .ref j] st = ret (.bl true) st := by
  rw [at_Ride___eq__]
  refine def_eq rfl ?_
  unfold IsRide at h h'
  have hk : kt_.lookup (TyN.o C_Ride, C_Ride) = some true := by decide
  have e : ∀ t st, eqI t os_eq (toldV cs rs) (toldV cs rs) st = ret (.bl true) st := fun t st => by
    show eqM (toldV cs rs) (toldV cs rs) st = _
    rw [eq_plain (n := 3) (k := 3) (by simp [plain_costs, plain_riders]) (by simp [plain_costs, plain_riders]) (by simp [noBl_costs, noBl_riders]) (by simp [noBl_costs, noBl_riders]) (by decide) (by decide)]
    simp
  simp [D_Ride___eq__, start_def, h, h', rf_told, ty_ins h', hk, e]
theorem opNe_ride (k : Nat) (C : CE) (i j : Nat) (cs : List Int) (rs : List Rdr) (st : Sto) (h : IsRide st i cs rs) (h' : IsRide st j cs rs) : neI (tbOf sp_eq (sem (k + 1) C)) os_eq (.ref i) (.ref j) st = ret (.bl false) st := by
  unfold neI
  rw [rown h]
  have ok : okY os_eq (.ref j) st = true := by unfold okY; rw [ty_ins h']; rfl
  show (if okY os_eq (.ref j) st then bndP (sem (k + 1) C F_Ride___eq__ [.ref i, .ref j] st) asBl _ else none) = _
  rw [if_pos ok, eq_ride k C i j cs rs st h h']
  rfl
end Kk02
namespace Kk02
open PySem PySem.Spec L2 CS
structure Good (cs : List Int) (fs : List Rdr) : Prop where
  cl : cs.length ≤ 12
  fl : fs.length ≤ 6
  cc : ∀ c ∈ cs, 0 ≤ c ∧ c ≤ 1000000
  ff : ∀ r ∈ fs, 0 ≤ r.1 ∧ r.1 ≤ 12 ∧ 0 ≤ r.2.2 ∧ r.2.2 ≤ 9 ∧ ∀ t, r.2.1 = some t → 0 ≤ t ∧ t ≤ 12
theorem Good.nil : Good [] [] := ⟨by decide, by decide, by simp, by simp⟩
theorem Good.next {cs : List Int} {fs : List Rdr} {d : Deed} (g : Good cs fs) (h : Can cs fs d) : Good (nextC cs d) (nextF cs fs d) := by
  have h1 := g.cl
  have h2 := g.fl
  cases d with
  | drive c =>
    obtain ⟨a, b, e⟩ := h
    refine ⟨by simp [nextC]; omega, g.fl, fun x hx => ?_, g.ff⟩
    simp [nextC] at hx
    rcases hx with hx | rfl
    · exact g.cc x hx
    · exact ⟨a, b⟩
  | enter b =>
    obtain ⟨a0, a1, a2, a3⟩ := h
    refine ⟨g.cl, by simp [nextF]; omega, g.cc, fun x hx => ?_⟩
    simp [nextF] at hx
    rcases hx with hx | rfl
    · exact g.ff x hx
    · exact ⟨by simp, by simp; omega, a0, a1, by simp⟩
  | leave i =>
    obtain ⟨r, h3, h4, h5⟩ := h
    have hi := (List.getElem?_eq_some_iff.mp h3).1
    refine ⟨g.cl, by simp [nextF, outR, h3]; omega, g.cc, fun x hx => ?_⟩
    simp [nextF, outR, h3] at hx
    rcases hx with hx | rfl | hx
    · exact g.ff x (List.mem_of_mem_take hx)
    · have z := g.ff r (List.mem_of_getElem? h3)
      refine ⟨z.1, z.2.1, z.2.2.1, z.2.2.2.1, fun t ht => ?_⟩
      simp at ht
      subst ht
      omega
    · exact g.ff x (List.mem_of_mem_drop hx)
theorem seats_mem {o : Ord} {fs : List Rdr} {i : Int} (h : i ∈ seatsL o fs) : 0 ≤ i ∧ i < fs.length := by
  unfold seatsL sortIP at h
  obtain ⟨k, hk, rfl⟩ := List.mem_map.mp h
  have hk := List.mem_mergeSort.mp hk
  obtain ⟨n, hn, rfl⟩ := List.mem_map.mp hk
  have := insL_lt hn
  exact ⟨by simp, by simp; omega⟩
theorem seats_short {o : Ord} {fs : List Rdr} : (seatsL o fs).length ≤ fs.length := by
  rw [seats_len]
  exact Nat.le_trans (List.length_filter_le _ _) (by simp)
theorem small10 {i : Int} (h0 : 0 ≤ i) (h1 : i ≤ 1000000) : i.natAbs.log2 < 1920 := small_log (Nat.lt_of_le_of_lt (show i.natAbs ≤ 1000000 by omega) (by decide +kernel))

theorem filter_range_ext {p q : Nat → Bool} {m n : Nat} (h : m ≤ n) (h1 : ∀ i, i < m → p i = q i) (h2 : ∀ i, m ≤ i → i < n → q i = false) : (List.range m).filter p = (List.range n).filter q := by
  obtain ⟨k, rfl⟩ : ∃ k, n = m + k := ⟨n - m, by omega⟩
  rw [List.range_add, List.filter_append]
  have e1 : (List.range m).filter p = (List.range m).filter q := List.filter_congr fun i hi => h1 i (List.mem_range.mp hi)
  have e2 : ((List.range k).map (m + ·)).filter q = [] := by
    rw [List.filter_eq_nil_iff]
    intro i hi
    obtain ⟨j, hj, rfl⟩ := List.mem_map.mp hi
    have := h2 (m + j) (by omega) (by have := List.mem_range.mp hj; omega)
    simp [this]
  rw [e1, e2, List.append_nil]
theorem rank_congr {o : Ord} {fs gs : List Rdr} {t : Int} (h : abL gs t = abL fs t) (hk : ∀ i ∈ abL fs t, keyAt o gs (i : Nat) = keyAt o fs (i : Nat)) : rankL o gs t = rankL o fs t := by
  unfold rankL
  rw [h]
  congr 2
  exact List.map_congr_left fun i hi => by rw [hk i hi]
theorem ab_enter {fs : List Rdr} {n t : Int} {b : Int} (h : t < n) : abL (fs ++ [(n, none, b)]) t = abL fs t := by
  unfold abL
  symm
  refine filter_range_ext (by simp) (fun i hi => ?_) fun i h1 h2 => ?_
  · unfold abB
    rw [List.getElem?_append_left hi]
  · have : i = fs.length := by simp at h2; omega
    subst this
    unfold abB
    rw [List.getElem?_append_right (Nat.le_refl _)]
    simp
    omega
theorem key_enter {o : Ord} {fs : List Rdr} {x : Rdr} {i : Nat} (h : i < fs.length) : keyAt o (fs ++ [x]) (i : Nat) = keyAt o fs (i : Nat) := by
  unfold keyAt
  rw [Int.toNat_natCast, List.getElem?_append_left h]
theorem out_set {fs : List Rdr} {i : Nat} {r : Rdr} {t : Int} (h : fs[i]? = some r) : outR fs i t = fs.set i (r.1, some t, r.2.2) := by
  have hi := (List.getElem?_eq_some_iff.mp h).1
  unfold outR
  rw [h, List.set_eq_take_append_cons_drop, if_pos hi]
theorem out_get {fs : List Rdr} {i j : Nat} {r : Rdr} {t : Int} (h : fs[i]? = some r) : (outR fs i t)[j]? = if i = j then some (r.1, some t, r.2.2) else fs[j]? := by
  have hi := (List.getElem?_eq_some_iff.mp h).1
  rw [out_set h, List.getElem?_set]
  split
  · rename_i e
    subst e
    simp [hi]
  · rfl
theorem ab_leave {fs : List Rdr} {i : Nat} {r : Rdr} {n t : Int} (h : fs[i]? = some r) (hn : r.2.1 = none) (ht : t < n) : abL (outR fs i n) t = abL fs t := by
  unfold abL
  have hl : (outR fs i n).length = fs.length := by rw [out_set h, List.length_set]
  rw [hl]
  refine List.filter_congr fun j _ => ?_
  unfold abB
  rw [out_get h]
  by_cases e : i = j
  · subst e
    rw [if_pos rfl, h]
    simp [hn, ht]
  · rw [if_neg e]
theorem key_leave {o : Ord} {fs : List Rdr} {i j : Nat} {r : Rdr} {n : Int} (h : fs[i]? = some r) : keyAt o (outR fs i n) (j : Nat) = keyAt o fs (j : Nat) := by
  unfold keyAt
  rw [Int.toNat_natCast, out_get h]
  by_cases e : i = j
  · subst e
    rw [if_pos rfl, h]
    cases o <;> rfl
  · rw [if_neg e]
theorem ab_now {fs : List Rdr} {n : Int} (h1 : ∀ r ∈ fs, r.1 ≤ n) (h2 : ∀ r ∈ fs, ∀ s, r.2.1 = some s → s ≤ n) : abL fs n = insL fs := by
  unfold abL insL
  refine List.filter_congr fun i hi => ?_
  have hi := List.mem_range.mp hi
  have hm := List.getElem_mem hi
  unfold abB inB
  have a1 := h1 _ hm
  have a2 := h2 _ hm
  simp [hi]
  cases q : fs[i].2.1 with
  | none => simp [a1]
  | some s =>
    have := a2 s q
    simp
    omega
def nowR (n : Int) (r : Rdr) : Rdr := (r.1, some (r.2.1.getD n), r.2.2)
def tripL (n : Int) (fs : List Rdr) : List Rdr := (fs.filter fun r => decide (r.1 < n)).map (nowR n)
structure Wd02 (cs : List Int) (fs : List Rdr) : Prop where
  good : Good cs fs
  srt : fs.Pairwise fun a b => a.1 ≤ b.1
  st : ∀ r ∈ fs, r.1 ≤ cs.length
  sp : ∀ r ∈ fs, ∀ s, r.2.1 = some s → r.1 + 1 ≤ s ∧ s ≤ cs.length
  cr : ∀ t : Int, 0 ≤ t → t < cs.length → (abL fs t).length ≤ 4
  ins : (insL fs).length ≤ 4
theorem trip_get {n : Int} : ∀ {fs : List Rdr}, fs.Pairwise (fun a b => a.1 ≤ b.1) → ∀ i : Nat, (tripL n fs)[i]? = (fs[i]?).bind fun r => if r.1 < n then some (nowR n r) else none
  | [], _, i => rfl
  | r :: fs, h, i => by
    obtain ⟨h1, h2⟩ := List.pairwise_cons.mp h
    by_cases q : r.1 < n
    · have e : tripL n (r :: fs) = nowR n r :: tripL n fs := by
        unfold tripL
        rw [List.filter_cons_of_pos (by simpa using q), List.map_cons]
      rw [e]
      cases i with
      | zero => simp [q]
      | succ i => rw [List.getElem?_cons_succ, List.getElem?_cons_succ, trip_get h2 i]
    · have e : tripL n (r :: fs) = [] := by
        unfold tripL
        have : fs.filter (fun r => decide (r.1 < n)) = [] := by
          rw [List.filter_eq_nil_iff]
          intro x hx
          have := h1 x hx
          simp
          omega
        rw [List.filter_cons_of_neg (by simpa using q), this]
        rfl
      rw [e]
      cases i with
      | zero => simp [q]
      | succ i =>
        rw [List.getElem?_cons_succ]
        cases z : fs[i]? with
        | none => rfl
        | some x =>
          have := h1 x (List.mem_of_getElem? z)
          have : ¬ x.1 < n := by omega
          simp [this]
theorem trip_len {n : Int} {fs : List Rdr} : (tripL n fs).length ≤ fs.length := by
  unfold tripL
  rw [List.length_map]
  exact List.length_filter_le _ _
theorem ab_trip {n t : Int} {fs : List Rdr} (h : fs.Pairwise fun a b => a.1 ≤ b.1) (ht : t < n) : abL (tripL n fs) t = abL fs t := by
  have key : ∀ i, abB (tripL n fs) t i = abB fs t i := fun i => by
    unfold abB
    rw [trip_get h i]
    cases z : fs[i]? with
    | none => rfl
    | some r =>
      by_cases q : r.1 < n
      · rw [Option.bind_some, if_pos q]
        cases q2 : r.2.1 with
        | none => simp [nowR, q2, ht]
        | some s => simp [nowR, q2]
      · rw [Option.bind_some, if_neg q]
        simp
        omega
  unfold abL
  refine filter_range_ext trip_len (fun i _ => key i) fun i h1 _ => ?_
  rw [← key i]
  unfold abB
  rw [List.getElem?_eq_none h1]
theorem key_trip {o : Ord} {n : Int} {fs : List Rdr} {i : Nat} (h : fs.Pairwise fun a b => a.1 ≤ b.1) (hi : i < (tripL n fs).length) : keyAt o (tripL n fs) (i : Nat) = keyAt o fs (i : Nat) := by
  have e := trip_get (n := n) h i
  have e2 : (tripL n fs)[i]? = some (tripL n fs)[i] := by simp [hi]
  rw [e2] at e
  unfold keyAt
  rw [Int.toNat_natCast, e2, e]
  cases z : fs[i]? with
  | none => rw [z] at e; cases e
  | some r =>
    rw [z, Option.bind_some] at e
    rw [Option.bind_some]
    split at e
    · rename_i q
      rw [if_pos q]
      cases o <;> rfl
    · cases e
theorem rank_trip {o : Ord} {n t : Int} {fs : List Rdr} (h : fs.Pairwise fun a b => a.1 ≤ b.1) (ht : t < n) : rankL o (tripL n fs) t = rankL o fs t := rank_congr (ab_trip h ht) fun i hi => key_trip h (abL_lt (by rw [ab_trip h ht]; exact hi))
theorem trip_ok {cs : List Int} {fs : List Rdr} (w : Wd02 cs fs) (h : tripL cs.length fs ≠ []) : RideOk cs (tripL cs.length fs) := by
  have hl : (tripL cs.length fs).length ≤ fs.length := by unfold tripL; rw [List.length_map]; exact List.length_filter_le _ _
  have g1 := w.good.fl
  obtain ⟨x, hx⟩ := List.exists_mem_of_ne_nil _ h
  have r3 : ∀ r ∈ tripL cs.length fs, TrOk cs.length r := fun r hr => by
    unfold tripL at hr
    obtain ⟨y, hy, rfl⟩ := List.mem_map.mp hr
    obtain ⟨hy, hlt⟩ := List.mem_filter.mp hy
    have hlt : y.1 < cs.length := of_decide_eq_true hlt
    obtain ⟨a0, a1, a2, a3, a4⟩ := w.good.ff y hy
    have sp := w.sp y hy
    refine ⟨⟨y.2.1.getD cs.length, rfl, ?_, ?_⟩, a0, by show y.1 ≤ _; omega, a2, a3⟩
    · show y.1 + 1 ≤ _
      cases q : y.2.1 with
      | none => simp; omega
      | some s => have := sp s q; simp; omega
    · cases q : y.2.1 with
      | none => simp
      | some s => have := sp s q; simp; omega
  refine ⟨?_, w.good.cl, w.good.cc, List.length_pos_iff.mpr h, by omega, r3, fun t h0 h1 => ?_⟩
  · have z := r3 x hx
    have := z.s0
    have := z.s1
    omega
  · rw [ab_trip w.srt h1]
    exact w.cr t h0 h1
end Kk02
namespace Kk02
open PySem PySem.Spec L2 CS
theorem Wd02.next {cs : List Int} {fs : List Rdr} {d : Deed} (w : Wd02 cs fs) (h : Can cs fs d) : Wd02 (nextC cs d) (nextF cs fs d) := by
  have g := w.good.next h
  cases d with
  | drive c =>
    refine ⟨g, w.srt, fun r hr => ?_, fun r hr s hs => ?_, fun t h0 h1 => ?_, w.ins⟩
    · have := w.st r hr; simp [nextC]; omega
    · have := w.sp r hr s hs; simp [nextC]; omega
    · simp [nextC] at h1
      by_cases q : t < cs.length
      · exact w.cr t h0 q
      · have e : t = cs.length := by omega
        subst e
        show (abL fs _).length ≤ 4
        rw [ab_now w.st fun r hr s hs => (w.sp r hr s hs).2]
        exact w.ins
  | enter b =>
    obtain ⟨a0, a1, a2, a3⟩ := h
    refine ⟨g, ?_, fun r hr => ?_, fun r hr s hs => ?_, fun t h0 h1 => ?_, ?_⟩
    · show (fs ++ [_]).Pairwise _
      rw [List.pairwise_append]
      refine ⟨w.srt, by simp, fun a ha b hb => ?_⟩
      simp at hb
      subst hb
      exact w.st a ha
    · simp [nextF] at hr
      rcases hr with hr | rfl
      · exact w.st r hr
      · exact Int.le_refl _
    · simp [nextF] at hr
      rcases hr with hr | rfl
      · exact w.sp r hr s hs
      · cases hs
    · show (abL (fs ++ [_]) t).length ≤ 4
      rw [ab_enter (show t < (cs.length : Int) from h1)]
      exact w.cr t h0 h1
    · have e : insL (fs ++ [((cs.length : Int), none, b)]) = insL fs ++ [fs.length] := by
        unfold insL
        rw [List.length_append, List.length_singleton, range_filter]
        have e1 : inB (fs ++ [((cs.length : Int), (none : Option Int), b)]) fs.length = true := by unfold inB; simp
        rw [e1]
        congr 1
        refine List.filter_congr fun i hi => ?_
        unfold inB
        rw [List.getElem?_append_left (List.mem_range.mp hi)]
      show (insL (fs ++ [_])).length ≤ 4
      rw [e, List.length_append, List.length_singleton]
      omega
  | leave i =>
    obtain ⟨r, h3, h4, h5⟩ := h
    have hi := (List.getElem?_eq_some_iff.mp h3).1
    have hm := List.mem_of_getElem? h3
    have es : nextF cs fs (.leave i) = fs.set i (r.1, some (cs.length : Int), r.2.2) := out_set h3
    have old : ∀ x ∈ nextF cs fs (.leave i), x = (r.1, some (cs.length : Int), r.2.2) ∨ x ∈ fs := fun x hx => by
      rw [es] at hx
      exact (List.mem_or_eq_of_mem_set hx).symm
    refine ⟨g, ?_, fun x hx => ?_, fun x hx s hs => ?_, fun t h0 h1 => ?_, ?_⟩
    · rw [es]
      have hp := List.pairwise_iff_getElem.mp w.srt
      rw [List.pairwise_iff_getElem]
      intro a b ha hb hab
      rw [List.length_set] at ha hb
      have q : ∀ (c : Nat) (hc : c < fs.length), ((fs.set i (r.1, some (cs.length : Int), r.2.2))[c]'(by rw [List.length_set]; exact hc)).1 = fs[c].1 := fun c hc => by
        rw [List.getElem_set]
        split
        · rename_i e
          subst e
          have := List.getElem?_eq_some_iff.mp h3
          rw [this.2]
        · rfl
      rw [q a ha, q b hb]
      exact hp a b ha hb hab
    · rcases old x hx with rfl | hx
      · exact w.st r hm
      · exact w.st x hx
    · rcases old x hx with rfl | hx
      · simp at hs
        subst hs
        have := w.st r hm
        exact ⟨by show r.1 + 1 ≤ _; omega, Int.le_refl _⟩
      · exact w.sp x hx s hs
    · show (abL (outR fs i cs.length) t).length ≤ 4
      rw [ab_leave h3 h4 (show t < (cs.length : Int) from h1)]
      exact w.cr t h0 h1
    · have : ∀ (n : Nat), ((List.range n).filter (inB (nextF cs fs (.leave i)))).length ≤ ((List.range n).filter (inB fs)).length := fun n => by
        induction n with
        | zero => simp
        | succ n ih =>
          rw [range_filter, range_filter, List.length_append, List.length_append]
          have : (if inB (nextF cs fs (.leave i)) n = true then [n] else []).length ≤ (if inB fs n = true then [n] else []).length := by
            by_cases q : inB (nextF cs fs (.leave i)) n = true
            · have q2 : inB fs n = true := by
                unfold inB at q ⊢
                have e : (nextF cs fs (.leave i))[n]? = _ := out_get (j := n) (t := (cs.length : Int)) h3
                rw [e] at q
                by_cases z : i = n
                · rw [if_pos z] at q
                  cases q
                · rw [if_neg z] at q
                  exact q
              rw [if_pos q, if_pos q2]
              exact Nat.le_refl _
            · rw [if_neg q]
              exact Nat.zero_le _
          omega
      have z := this fs.length
      have hl : (nextF cs fs (.leave i)).length = fs.length := by rw [es, List.length_set]
      unfold insL
      rw [hl]
      exact Nat.le_trans z w.ins
def rowsL (o : Ord) (cs : List Int) (fs : List Rdr) : List MV := (List.range cs.length).map fun (t : Nat) => .tup ((rankL o fs t).map .int)
theorem rows_drive (o : Ord) (cs : List Int) (fs : List Rdr) (c : Int) (w : Wd02 cs fs) : rowsL o (cs ++ [c]) fs = rowsL o cs fs ++ [.tup ((seatsL o fs).map .int)] := by
  unfold rowsL
  rw [List.length_append, List.length_singleton, List.range_succ, List.map_append]
  congr 1
  have e : rankL o fs (cs.length : Int) = seatsL o fs := by
    unfold rankL seatsL
    rw [ab_now w.st fun r hr s hs => (w.sp r hr s hs).2]
  simp [e]
theorem rows_same (o : Ord) (cs : List Int) (fs : List Rdr) (d : Deed) (w : Wd02 cs fs) (h : Can cs fs d) (hd : ∀ c, d ≠ .drive c) : rowsL o (nextC cs d) (nextF cs fs d) = rowsL o cs fs := by
  cases d with
  | drive c => exact absurd rfl (hd c)
  | enter b =>
    unfold rowsL
    refine List.map_congr_left fun t ht => ?_
    have ht : (t : Int) < cs.length := by have := List.mem_range.mp ht; simp only [nextC] at this; omega
    have e : rankL o (nextF cs fs (.enter b)) (t : Int) = rankL o fs (t : Int) := rank_congr (ab_enter ht) fun i hi => key_enter (abL_lt hi)
    rw [e]
  | leave i =>
    obtain ⟨r, h3, h4, h5⟩ := h
    unfold rowsL
    refine List.map_congr_left fun t ht => ?_
    have ht : (t : Int) < cs.length := by have := List.mem_range.mp ht; simp only [nextC] at this; omega
    have e : rankL o (nextF cs fs (.leave i)) (t : Int) = rankL o fs (t : Int) := rank_congr (ab_leave h3 h4 ht) fun i hi => key_leave h3
    rw [e]
end Kk02
namespace Kk02
open PySem PySem.Spec L2 CS
def keptL (n : Int) (fs : List Rdr) : List Rdr := fs.filter fun r => decide (r.1 < n)
theorem trip_kept {n : Int} {fs : List Rdr} : tripL n fs = (keptL n fs).map (nowR n) := rfl
theorem riderV_now {n : Int} {r : Rdr} : riderV (nowR n r) = .tup [.int r.1, .int (r.2.1.getD n), .int r.2.2] := rfl
end Kk02
namespace Kk02
open PySem PySem.Spec L2 CS
theorem drop_ok (k : Nat) (C : CE) (j : Nat) (m : Int) (st : Sto) (h : JugAt j st) (h0 : 0 < m) (h1 : m < 1000000) : Wp (sem (k + 1) C F__law_drop [.ref j, .int m] st) fun v st' => (∃ d : Int, v = .int d ∧ 0 ≤ d ∧ d < m) ∧ Jg j st st' := by
  have hl := h.lt
  obtain ⟨a, b, c, e⟩ := h
  rw [at__law_drop, wp_def]
  have i1 := ix3 e
  have s1 := fun v => set3 (v := v) e
  have e2 : (st.set j (.lst [.int a, .int b, .int (c + 2)]))[j]? = some (.lst [.int a, .int b, .int (c + 2)]) := set_get e
  have i2 := ix3 e2
  have s2 := fun v => set3 (v := v) e2
  simp [D__law_drop, start_def, i1.2.2, s1, i2.2.1]
  split
  · rename_i hb
    simp [i2.2.1, m_divmod ⟨h0, (by omega : m < 1073741824)⟩, s2, lowV]
    exact ⟨⟨Int.emod_nonneg _ (by omega), Int.emod_lt_of_pos _ h0⟩, Jg.set hl _ _ _⟩
  · rename_i hb
    have u1 : ∀ (x : Int) (st : Sto), mulM (.int x) (.int 48017) st = ret (.int (x * 48017)) st := fun _ _ => m_mulR (by decide)
    have u2 : ∀ (x : Int) (st : Sto), mulM (.int x) (.int 80021) st = ret (.int (x * 80021)) st := fun _ _ => m_mulR (by decide)
    have u3 : ∀ (x : Int) (st : Sto), mulM (.int x) (.int 41) st = ret (.int (x * 41)) st := fun _ _ => m_mulR (by decide)
    have u4 : ∀ (x : Int) (st : Sto), divM (.int x) (.int 5003) st = ret (.int (x / 5003)) st := fun _ _ => m_div (by decide) (by decide)
    have u5 : ∀ (x : Int) (st : Sto), divM (.int x) (.int 281) st = ret (.int (x / 281)) st := fun _ _ => m_div (by decide) (by decide)
    have u6 : ∀ (x : Int) (st : Sto), modM (.int x) (.int 1999999751) st = ret (.int (x % 1999999751)) st := fun _ _ => m_mod (by decide)
    have e3 : ∀ x : Int, (st.set j (.lst [.int x, .int b, .int (c + 2)]))[j]? = some (.lst [.int x, .int b, .int (c + 2)]) := fun x => set_get e
    simp [i2.1, i2.2.2, u1, u2, u3, u4, u5, u6, s2, (ix3 (e3 _)).1, m_mod h0, lowV]
    exact ⟨⟨Int.emod_nonneg _ (by omega), Int.emod_lt_of_pos _ h0⟩, Jg.set hl _ _ _⟩
theorem one_ok (k : Nat) (C : CE) (j i : Nat) (xs : List MV) (st : Sto) (h : JugAt j st) (hx : CS.listOf st i = some xs) (hne : i ≠ j) (h0 : 0 < xs.length) (h1 : xs.length < 1000000) : Wp (sem (k + 2) C F__law_one [.ref j, .ref i] st) fun v st' => v ∈ xs ∧ Jg j st st' := by
  have hl := h.lt
  rw [at__law_one, wp_def]
  simp [D__law_one, start_def, m_lenIR hx]
  refine Wp.quiet (drop_ok k C j xs.length st h (by omega) (by omega)) ?_
  rintro v st1 ⟨⟨d, rfl, d0, d1⟩, g⟩
  have hx1 := g.list hx hne
  have hd : d.toNat < xs.length := by omega
  have e : atI xs d = some xs[d.toNat] := at_int d0 (by simp [hd])
  simp [m_ixR hx1 e]
  exact g.gcI hl
def RSeq (st : Sto) (x : MV) (rs : List Rdr) : Prop := x = ridersV rs ∨ ∃ f, x = .ref f ∧ CS.listOf st f = some (rs.map riderV)
theorem RSeq.app {st : Sto} {x : MV} {rs : List Rdr} (h : RSeq st x rs) (u : Sto) : RSeq (st ++ u) x rs := h.imp_right fun ⟨f, e, h⟩ => ⟨f, e, list_app h⟩
theorem RSeq.len {t : Tb} {st : Sto} {x : MV} {rs : List Rdr} (h : RSeq st x rs) : lenI t [x] st = ret (.int rs.length) st := by
  rcases h with rfl | ⟨f, rfl, h⟩
  · exact len_riders
  · rw [m_lenIR h]; simp
theorem RSeq.at {st : Sto} {x : MV} {rs : List Rdr} (h : RSeq st x rs) {i : Nat} (hi : i < rs.length) : ixM x (.int i) st = ret (riderV rs[i]) st := by
  rcases h with rfl | ⟨f, rfl, h⟩
  · exact at_rider (by omega) (by simp [hi])
  · exact rider_in h hi
theorem rd1 {n : Int} {r : Rdr} (h : TrOk n r) : ∃ s, r.2.1 = some s ∧ ∀ st, ixM (riderV r) (.int 1) st = ret (.int s) st := by
  obtain ⟨s, hs, _⟩ := h.ex
  exact ⟨s, hs, fun st => by rw [rider1, hs]; rfl⟩
end Kk02
namespace Kk02
open PySem PySem.Spec L2 CS
variable {j : Nat}
theorem getX {α : Type} {r : R α} {x : MX} {st : Sto} (h : Wp r (fun _ _ => False) fun y st' => y = x ∧ st' = st) : r = some (.error x, st) := by
  match r, h with
  | some (.error y, s), ⟨h1, h2⟩ => rw [h1, h2]
theorem eq_of_wp {α : Type} {r : R α} {a : α} {st : Sto} (h : Wp r fun x st' => x = a ∧ st' = st) : r = ret a st := by
  obtain ⟨v, st', e, rfl, rfl⟩ := h.get
  exact e
theorem getE {α : Type} {r : R α} {x : MX} {st : Sto} {P : α → Sto → Prop} {X : MX → Sto → Prop} (h : r = some (.error x, st)) : Wp r P X = X x st := by rw [h]; rfl
inductive Odd (j : Nat) (st : Sto) : MV → Prop
  | non : Odd j st .non
  | bl (b : Bool) : Odd j st (.bl b)
  | str (x : Str) : Odd j st (.str x)
  | tup (xs : List MV) : Odd j st (.tup xs)
  | lst {i : Nat} {xs : List MV} : st[i]? = some (.lst xs) → i ≠ j → Odd j st (.ref i)
  | dct {i : Nat} : st[i]? = some .dct → i ≠ j → Odd j st (.ref i)
inductive NoT (j : Nat) (st : Sto) : MV → Prop
  | non : NoT j st .non
  | int (i : Int) : NoT j st (.int i)
  | str (x : Str) : NoT j st (.str x)
  | lst {i : Nat} {xs : List MV} : st[i]? = some (.lst xs) → i ≠ j → NoT j st (.ref i)
  | dct {i : Nat} : st[i]? = some .dct → i ≠ j → NoT j st (.ref i)
abbrev Kp (j : Nat) (st st' : Sto) : Prop := ∀ i o, i ≠ j → st[i]? = some o → st'[i]? = some o
theorem Kp.of {st st' : Sto} (g : Jg j st st') : Kp j st st' := fun i o h e => g.look e h
theorem Kp.app {st u : Sto} : Kp j st (st ++ u) := fun i o _ e => at_app e
theorem Odd.keep {st st' : Sto} {v : MV} (g : Kp j st st') (h : Odd j st v) : Odd j st' v := by
  cases h with
  | non => exact .non
  | bl b => exact .bl b
  | str x => exact .str x
  | tup xs => exact .tup xs
  | lst h hn => exact .lst (g _ _ hn h) hn
  | dct h hn => exact .dct (g _ _ hn h) hn
theorem NoT.keep {st st' : Sto} {v : MV} (g : Kp j st st') (h : NoT j st v) : NoT j st' v := by
  cases h with
  | non => exact .non
  | int b => exact .int b
  | str x => exact .str x
  | lst h hn => exact .lst (g _ _ hn h) hn
  | dct h hn => exact .dct (g _ _ hn h) hn
theorem is_integer_no (k : Nat) (C : CE) (v : MV) (st : Sto) (hv : Odd j st v) : sem (k + 1) C F_is_integer [v] st = ret (.bl false) st := by
  refine eq_of_wp ?_
  rw [at_is_integer, wp_def]
  have g : gcS st st = st := gc_same
  cases hv with
  | non => simp [D_is_integer, start_def, tyM, isiOne, g, lowV]
  | bl b => simp [D_is_integer, start_def, tyM, isiOne, g, lowV]
  | str x => simp [D_is_integer, start_def, tyM, isiOne, g, lowV]
  | tup xs => simp [D_is_integer, start_def, tyM, isiOne, g, lowV]
  | lst h _ => simp [D_is_integer, start_def, tyM, isiOne, g, lowV, h]
  | dct h _ =>
    have kd : kitB "dict" "int" = some false := by decide
    simp [D_is_integer, start_def, tyM, isiOne, g, lowV, h, kd]
theorem between_no (k : Nat) (C : CE) (v lo hi : MV) (st : Sto) (hv : Odd j st v) : sem (k + 2) C F_is_between [v, lo, hi] st = ret (.bl false) st := by
  have e := is_integer_no k C v st hv
  refine eq_of_wp ?_
  rw [at_is_between, wp_def]
  simp [D_is_between, start_def, e]
theorem is_tuple_no {st : Sto} {v : MV} (hv : NoT j st v) : ∃ t, tyM v st = some t ∧ isiOne kt_ kb_ t (.ty "tuple") = some false := by
  cases hv with
  | non => exact ⟨_, rfl, by decide⟩
  | int b => exact ⟨_, rfl, by decide⟩
  | str x => exact ⟨_, rfl, by decide⟩
  | lst h _ => exact ⟨.b "list", by simp [tyM, h], by decide⟩
  | dct h _ => exact ⟨.b "dict", by simp [tyM, h], by decide⟩
def BadCost (j : Nat) (st : Sto) (o : MV) : Prop := Odd j st o ∨ ∃ z : Int, o = .int z ∧ ¬ (0 ≤ z ∧ z ≤ 1000000)
theorem cost_no (k : Nat) (C : CE) (o : MV) (st : Sto) (h : BadCost j st o) : sem (k + 2) C F_is_between [o, .int 0, .int 1000000] st = ret (.bl false) st := by
  rcases h with h | ⟨z, rfl, h⟩
  · exact between_no k C _ _ _ _ h
  · rw [is_between_int]
    have : (decide ((0 : Int) ≤ z) && decide (z ≤ 1000000)) = false := by
      by_cases h1 : (0 : Int) ≤ z <;> by_cases h2 : z ≤ 1000000 <;> simp [h1, h2] <;> exact h ⟨h1, h2⟩
    rw [this]
inductive BadC (j : Nat) (st : Sto) : MV → MV → Prop
  | noT {v : MV} : NoT j st v → BadC j st v .non
  | few : BadC j st (.tup []) .non
  | many {xs : List MV} : xs.length = 13 → BadC j st (.tup xs) .non
  | at_ (pre : List Int) (o : MV) (post : List MV) : (∀ x ∈ pre, 0 ≤ x ∧ x ≤ 1000000) → pre.length ≤ 3 → post.length ≤ 2 → BadCost j st o → BadC j st (.tup (pre.map .int ++ o :: post)) (.int pre.length)
theorem BadC.keep {st st' : Sto} {v s : MV} (g : Kp j st st') (h : BadC j st v s) : BadC j st' v s := by
  cases h with
  | noT h => exact .noT (h.keep g)
  | few => exact .few
  | many h => exact .many h
  | at_ pre o post h1 h2 h3 h4 => exact .at_ pre o post h1 h2 h3 (h4.imp_left (Odd.keep g))
theorem costs_bad (k : Nat) (C : CE) (v s : MV) (st : Sto) (h : BadC j st v s) : sem (k + 3) C F_check_costs [v] st = some (.error (C_InvalidCosts, [("index", s)]), st) := by
  refine getX ?_
  rw [at_check_costs, wp_def]
  cases h with
  | noT h =>
    obtain ⟨t, e1, e2⟩ := is_tuple_no h
    simp [D_check_costs, start_def, e1, e2, s_rsA, lowX, lowFs, lowV]
  | few => simp [D_check_costs, start_def, s_rsA, lowX, lowFs, lowV]
  | @many xs h =>
    have h2 : ¬ ((xs.length : Int) ≤ 12) := by omega
    have h3 : (1 : Int) ≤ xs.length := by omega
    simp [D_check_costs, start_def, s_rsA, lowX, lowFs, lowV, h2, h3]
  | at_ pre o post h1 h2 h3 h4 =>
    have a1 : (1 : Int) ≤ ((pre.map MV.int ++ o :: post).length : Nat) := by simp; omega
    have a2 : (((pre.map MV.int ++ o :: post).length : Nat) : Int) ≤ 12 := by simp; omega
    have lt : pre.length < (pre.map MV.int ++ o :: post).length := by simp
    obtain ⟨L, hL⟩ : ∃ L, L = pre.map MV.int ++ o :: post := ⟨_, rfl⟩
    rw [← hL] at a1 a2 lt ⊢
    have hs : L.length ≤ sizeLine := by rw [sizeLine_eq]; omega
    simp [D_check_costs, start_def, a1, a2]
    have hn : IM.cnt (.en (.t L)) = L.length := by simp
    rw [← hn]
    refine wp_for (fun i ρ st' => i ≤ pre.length ∧ st' = st ∧ ∃ a b, ρ = [some (.tup L), a, b]) ⟨Nat.zero_le _, rfl, none, none, rfl⟩ (fun i ρ st' hi h => ?_) (goes_tup (goes_cons goes_name (goes_cons goes_name goes_nil))) (fun ρ st' h => ?_)
    · obtain ⟨hp, rfl, a, b, rfl⟩ := h
      have hi : i < L.length := by simpa using hi
      by_cases q : i < pre.length
      · have e : L[i]? = some (.int pre[i]) := by rw [hL, List.getElem?_append_left (by simpa using q)]; simp [q]
        have hc := h1 pre[i] (List.getElem_mem q)
        simp [e, is_between_int, hc]
        omega
      · have qi : i = pre.length := by omega
        subst qi
        have e : L[pre.length]? = some o := by rw [hL, List.getElem?_append_right (by simp)]; simp
        have hc := cost_no k C o st' h4
        simp [e, hc, s_rsA, lowX, lowFs, lowV]
    · omega
end Kk02
namespace Kk02
open PySem PySem.Spec L2 CS
variable {j : Nat}
def badT : List MV := [.tup [.int 0, .int 3], .tup [.int 0, .int 4, .int 1], .tup [.int 2, .int 2, .int 0], .tup [.int (-1), .int 2, .int 0], .tup [.int 0, .int 1, .int 10], .tup [.int 0, .int 1, .int (-1)], .tup [.bl true, .int 2, .int 0],
  .tup [.int 0, .bl true, .int 0], .tup [.int 3, .int 4, .int 0], .tup [.int 1, .int 0, .int 0], .tup [.str "0", .int 1, .int 1], .tup [.int 0, .int 1, .non], .tup [.int 0, .int 1, .int 0, .int 0]]
inductive BadR (j : Nat) (st : Sto) : MV → Prop
  | noT {v : MV} : NoT j st v → BadR j st v
  | tup {v : MV} : v ∈ badT → BadR j st v
theorem rider_no (k : Nat) (C : CE) (v : MV) (st : Sto) (h : BadR j st v) : sem (k + 3) C F_is_rider [v, .int 3] st = ret (.bl false) st := by
  have b1 : ∀ st lo hi, sem (k + 2) C F_is_between [.bl true, lo, hi] st = ret (.bl false) st := fun st lo hi => between_no (j := j) k C _ _ _ _ (.bl _)
  have b2 : ∀ st lo hi, sem (k + 2) C F_is_between [.str "0", lo, hi] st = ret (.bl false) st := fun st lo hi => between_no (j := j) k C _ _ _ _ (.str _)
  have b3 : ∀ st lo hi, sem (k + 2) C F_is_between [.non, lo, hi] st = ret (.bl false) st := fun st lo hi => between_no (j := j) k C _ _ _ _ .non
  refine eq_of_wp ?_
  have hat : sem (k + 3) C F_is_rider = _ := at_is_rider (k + 2) C
  rw [hat, wp_def]
  have g : gcS st st = st := gc_same
  cases h with
  | noT h =>
    obtain ⟨t, e1, e2⟩ := is_tuple_no h
    simp [D_is_rider, start_def, e1, e2, lowV, g]
  | tup h =>
    simp only [badT, List.mem_cons, List.not_mem_nil, or_false] at h
    rcases h with rfl | rfl | rfl | rfl | rfl | rfl | rfl | rfl | rfl | rfl | rfl | rfl | rfl <;> simp [D_is_rider, start_def, is_between_int, b1, b2, b3, lowV, g]
def goodR : MV := .tup [.int 0, .int 3, .int 1]
theorem rider_good (k : Nat) (C : CE) (st : Sto) : sem (k + 3) C F_is_rider [goodR, .int 3] st = ret (.bl true) st := is_rider_ok k C (0, some 3, 1) 3 st ⟨⟨3, rfl, by decide, by decide⟩, by decide, by decide, by decide, by decide⟩
inductive BadF (j : Nat) (st : Sto) : MV → MV → Prop
  | noT {v : MV} : NoT j st v → BadF j st v .non
  | few : BadF j st (.tup []) .non
  | many {xs : List MV} : xs.length = 7 → BadF j st (.tup xs) .non
  | at_ (n : Nat) (o : MV) (post : List MV) : n ≤ 3 → post.length ≤ 2 → BadR j st o → BadF j st (.tup (List.replicate n goodR ++ o :: post)) (.int n)
theorem BadF.keep {st st' : Sto} {v s : MV} (g : Kp j st st') (h : BadF j st v s) : BadF j st' v s := by
  cases h with
  | noT h => exact .noT (h.keep g)
  | few => exact .few
  | many h => exact .many h
  | at_ n o post h1 h2 h3 => exact .at_ n o post h1 h2 (match h3 with | .noT h => .noT (h.keep g) | .tup h => .tup h)
theorem riders_bad (k : Nat) (C : CE) (v s : MV) (st : Sto) (h : BadF j st v s) : sem (k + 4) C F_check_riders [v, .int 3] st = some (.error (C_InvalidRiders, [("index", s)]), st) := by
  refine getX ?_
  have hat : sem (k + 4) C F_check_riders = _ := at_check_riders (k + 3) C
  rw [hat, wp_def]
  cases h with
  | noT h =>
    obtain ⟨t, e1, e2⟩ := is_tuple_no h
    simp [D_check_riders, start_def, e1, e2, s_rsA, lowX, lowFs, lowV]
  | few => simp [D_check_riders, start_def, s_rsA, lowX, lowFs, lowV]
  | @many xs h =>
    have h2 : ¬ ((xs.length : Int) ≤ 6) := by omega
    have h3 : (1 : Int) ≤ xs.length := by omega
    simp [D_check_riders, start_def, s_rsA, lowX, lowFs, lowV, h2, h3]
  | at_ n o post h1 h2 h3 =>
    have a1 : (1 : Int) ≤ ((List.replicate n goodR ++ o :: post).length : Nat) := by simp; omega
    have a2 : (((List.replicate n goodR ++ o :: post).length : Nat) : Int) ≤ 6 := by simp; omega
    have lt : n < (List.replicate n goodR ++ o :: post).length := by simp
    obtain ⟨L, hL⟩ : ∃ L, L = List.replicate n goodR ++ o :: post := ⟨_, rfl⟩
    rw [← hL] at a1 a2 lt ⊢
    have hs : L.length ≤ sizeLine := by rw [sizeLine_eq]; omega
    simp [D_check_riders, start_def, a1, a2]
    have hn : IM.cnt (.en (.t L)) = L.length := by simp
    rw [← hn]
    refine wp_for (fun i ρ st' => i ≤ n ∧ st' = st ∧ ∃ a b, ρ = [some (.tup L), some (.int 3), a, b]) ⟨Nat.zero_le _, rfl, none, none, rfl⟩ (fun i ρ st' hi h => ?_) (goes_tup (goes_cons goes_name (goes_cons goes_name goes_nil))) (fun ρ st' h => ?_)
    · obtain ⟨hp, rfl, a, b, rfl⟩ := h
      have hi : i < L.length := by simpa using hi
      by_cases q : i < n
      · have e : L[i]? = some goodR := by rw [hL, List.getElem?_append_left (by simpa using q)]; simp [q]
        have hc := rider_good k C st'
        simp [e, hc]
        omega
      · have qi : i = n := by omega
        subst qi
        have e : L[i]? = some o := by rw [hL, List.getElem?_append_right (by simp)]; simp
        have hc := rider_no k C o st' h3
        simp [e, hc, s_rsA, lowX, lowFs, lowV]
    · omega
end Kk02
namespace Kk02
open PySem PySem.Spec L2 CS
variable {j : Nat}
theorem is_crowded_all (k : Nat) (C : CE) (rs : List Rdr) (n : Int) (st : Sto) (h : rs.length ≤ 100) (h0 : 0 ≤ n) (hn : n ≤ 1000) (h3 : ∀ r ∈ rs, TrOk n r) : sem (k + 2) C F_is_crowded [.int n, ridersV rs] st = ret (.bl ((List.range n.toNat).any fun (i : Nat) => decide (4 < (abL rs i).length))) st := by
  rw [at_is_crowded]
  refine def_eq rfl ?_
  simp [D_is_crowded, start_def, wipeM]
  refine ⟨by omega, by rw [sizeLine_eq]; omega, ?_⟩
  refine wp_lcN rfl (fun i acc st' => st' = st ∧ acc = ((List.range i).map fun (i : Nat) => decide (4 < (abL rs i).length)).map .bl) ⟨rfl, rfl⟩ (fun i acc st' hi hI => ?_) (fun acc st' hI => ?_)
  · obtain ⟨rfl, rfl⟩ := hI
    have hi : i < n.toNat := hi
    refine ⟨_, _, get_rng hi, rfl, ?_⟩
    have e := aboard_at_ok k C rs n i st' h h3
    have h5 : decide ((4 : Int) < (abL rs i).length) = decide (4 < (abL rs i).length) := decide_eq_decide.mpr (by omega)
    simp [e, List.range_succ]
    omega
  · obtain ⟨rfl, rfl⟩ := hI
    rw [anyL_map]
    simp [List.any_map]
theorem init_costs (k : Nat) (C : CE) (i : Nat) (v w s : MV) (st : Sto) (h : BadC j st v s) : sem (k + 5) C F_Ride___init__ [.ref i, v, w] st = some (.error (C_InvalidCosts, [("index", s)]), st) := by
  have e := costs_bad (k + 1) C v s st h
  have ls : lowV st.length s = true := by cases h <;> rfl
  refine getX ?_
  have hat : sem (k + 5) C F_Ride___init__ = _ := at_Ride___init__ (k + 4) C
  rw [hat, wp_def]
  simp [D_Ride___init__, start_def, getE e, lowX, lowFs, ls]
theorem init_riders (k : Nat) (C : CE) (i : Nat) (w s : MV) (st : Sto) (h : BadF j st w s) : sem (k + 5) C F_Ride___init__ [.ref i, costsV [1, 2, 3], w] st = some (.error (C_InvalidRiders, [("index", s)]), st) := by
  have e := riders_bad k C w s st h
  have e2 : sem (k + 4) C F_check_costs [costsV [1, 2, 3]] st = ret .non st := check_costs_ok (k + 1) C [1, 2, 3] st (by decide) (by decide) (by decide)
  have ls : lowV st.length s = true := by cases h <;> rfl
  have ln : ∀ T, lenI T [costsV [1, 2, 3]] st = ret (.int 3) st := fun T => by unfold costsV; rw [m_lenIT]; rfl
  refine getX ?_
  have hat : sem (k + 5) C F_Ride___init__ = _ := at_Ride___init__ (k + 4) C
  rw [hat, wp_def]
  simp [D_Ride___init__, start_def, e2, ln, getE e, lowX, lowFs, ls, -m_lenIT]
def wideL : List (List Rdr) := [List.replicate 5 (0, some 3, 1), List.replicate 3 (0, some 2, 0) ++ List.replicate 2 (1, some 3, 0), List.replicate 6 (2, some 3, 9)]
theorem wide_ok {rs : List Rdr} (h : rs ∈ wideL) : 1 ≤ rs.length ∧ rs.length ≤ 6 ∧ (∀ r ∈ rs, TrOk 3 r) ∧ ((List.range 3).any fun (i : Nat) => decide (4 < (abL rs i).length)) = true := by
  have tr : ∀ (a b c : Int), 0 ≤ a → a ≤ 2 → a + 1 ≤ b → b ≤ 3 → 0 ≤ c → c ≤ 9 → TrOk 3 (a, some b, c) := fun a b c h1 h2 h3 h4 h5 h6 => ⟨⟨b, rfl, h3, h4⟩, h1, h2, h5, h6⟩
  simp only [wideL, List.mem_cons, List.not_mem_nil, or_false] at h
  rcases h with rfl | rfl | rfl
  · refine ⟨by decide, by decide, fun r hr => ?_, by decide⟩
    rw [List.eq_of_mem_replicate hr]; exact tr _ _ _ (by decide) (by decide) (by decide) (by decide) (by decide) (by decide)
  · refine ⟨by decide, by decide, fun r hr => ?_, by decide⟩
    rcases List.mem_append.mp hr with hr | hr
    · rw [List.eq_of_mem_replicate hr]; exact tr _ _ _ (by decide) (by decide) (by decide) (by decide) (by decide) (by decide)
    · rw [List.eq_of_mem_replicate hr]; exact tr _ _ _ (by decide) (by decide) (by decide) (by decide) (by decide) (by decide)
  · refine ⟨by decide, by decide, fun r hr => ?_, by decide⟩
    rw [List.eq_of_mem_replicate hr]; exact tr _ _ _ (by decide) (by decide) (by decide) (by decide) (by decide) (by decide)
theorem init_many (k : Nat) (C : CE) (i : Nat) (rs : List Rdr) (st : Sto) (h : rs ∈ wideL) : sem (k + 5) C F_Ride___init__ [.ref i, costsV [1, 2, 3], ridersV rs] st = some (.error (C_TooMany, [("limit", .int 4)]), st) := by
  obtain ⟨h1, h2, h3, h4⟩ := wide_ok h
  have e2 : sem (k + 4) C F_check_costs [costsV [1, 2, 3]] st = ret .non st := check_costs_ok (k + 1) C [1, 2, 3] st (by decide) (by decide) (by decide)
  have e3 : sem (k + 4) C F_check_riders [ridersV rs, .int 3] st = ret .non st := check_riders_ok k C rs 3 st h1 h2 h3
  have e4 : sem (k + 4) C F_is_crowded [.int 3, ridersV rs] st = ret (.bl true) st := by
    have := is_crowded_all (k + 2) C rs 3 st (by omega) (by decide) (by decide) h3
    rw [this, show (3 : Int).toNat = 3 from rfl, h4]
  have ln : ∀ T, lenI T [costsV [1, 2, 3]] st = ret (.int 3) st := fun T => by unfold costsV; rw [m_lenIT]; rfl
  refine getX ?_
  have hat : sem (k + 5) C F_Ride___init__ = _ := at_Ride___init__ (k + 4) C
  rw [hat, wp_def]
  simp [D_Ride___init__, start_def, e2, ln, e3, e4, s_rsA, lowX, lowFs, lowV, -m_lenIT]
theorem mk_err {f : List MV → Sto → R MV} {st : Sto} {x : MX} {args : List MV} (lo : lowX st.length x = true) (h : f (.ref st.length :: args) (st ++ [.ins C_Ride []]) = some (.error x, st ++ [.ins C_Ride []])) : finE st (mkM f C_Ride args st) = some (.error x, st) := by
  unfold mkM
  rw [h]
  show (if lowX st.length x then some (Except.error x, gcS st (st ++ [.ins C_Ride []])) else _) = _
  rw [if_pos lo, gc_app]
end Kk02
namespace Kk02
open PySem PySem.Spec L2 CS
variable {j : Nat}
noncomputable def mkA (S : Nat → Fn) : MEnv → Fn := lamM (eCall (mkM (S F_Ride___init__) C_Ride) (aCons (eVar 3) (aCons (eVar 5) (aNil)))) [false, false, false, true, false, true, false, false, false, false, false, false] 0
noncomputable def mkB (S : Nat → Fn) : MEnv → Fn := lamM (eCall (mkM (S F_Ride___init__) C_Ride) (aCons (eVar 1) (aCons (eVar 5) (aNil)))) [false, true, false, false, false, true, false, false, false, false, false, false] 0
noncomputable def mkC (S : Nat → Fn) : MEnv → Fn := lamM (eCall (mkM (S F_Ride___init__) C_Ride) (aCons (eVar 1) (aCons (eVar 8) (aNil)))) [false, true, false, false, false, false, false, false, true, false, false, false] 0
noncomputable def mkD (S : Nat → Fn) : MEnv → Fn := lamM (eCallK (fun xs zs st => mkM (fun ys st => S F_Ride___init__ (arrG .non sh_Ride___init___1_riders_costs ys zs []) st) C_Ride xs st) aNil (aCons (eVar 2) (aCons (eVar 3) (aNil)))) [false, false, true, true, false, false, false, false, false, false, false, false] 0
theorem lamA (k : Nat) (C : CE) (v w s : MV) (x0 x1 x2 x4 x6 x7 x8 x9 x10 x11 : Option MV) (st : Sto) (h : BadC j st v s) :
    mkA (sem (k + 5) C) [x0, x1, x2, some v, x4, some w, x6, x7, x8, x9, x10, x11] [] st = some (.error (C_InvalidCosts, [("index", s)]), st) := by
  have lo : lowX st.length (C_InvalidCosts, [("index", s)]) = true := by
    have ls : lowV st.length s = true := by cases h <;> rfl
    simp [lowX, lowFs, ls]
  have e := mk_err (args := [v, w]) lo (init_costs k C st.length v w s (st ++ [.ins C_Ride []]) (h.keep Kp.app))
  show finE st (eCall _ _ [none, none, none, some v, none, some w, none, none, none, none, none, none] st) = _
  have e2 : eCall (mkM (sem (k + 5) C F_Ride___init__) C_Ride) (aCons (eVar 3) (aCons (eVar 5) (aNil))) [none, none, none, some v, none, some w, none, none, none, none, none, none] st = mkM (sem (k + 5) C F_Ride___init__) C_Ride [v, w] st := rfl
  rw [e2]
  exact e
theorem lamB (k : Nat) (C : CE) (w s : MV) (x0 x2 x3 x4 x6 x7 x8 x9 x10 x11 : Option MV) (st : Sto) (h : BadF j st w s) :
    mkB (sem (k + 5) C) [x0, some (costsV [1, 2, 3]), x2, x3, x4, some w, x6, x7, x8, x9, x10, x11] [] st = some (.error (C_InvalidRiders, [("index", s)]), st) := by
  have lo : lowX st.length (C_InvalidRiders, [("index", s)]) = true := by
    have ls : lowV st.length s = true := by cases h <;> rfl
    simp [lowX, lowFs, ls]
  have e := mk_err (args := [costsV [1, 2, 3], w]) lo (init_riders k C st.length w s (st ++ [.ins C_Ride []]) (h.keep Kp.app))
  show finE st (eCall _ _ [none, some (costsV [1, 2, 3]), none, none, none, some w, none, none, none, none, none, none] st) = _
  have e2 : eCall (mkM (sem (k + 5) C F_Ride___init__) C_Ride) (aCons (eVar 1) (aCons (eVar 5) (aNil))) [none, some (costsV [1, 2, 3]), none, none, none, some w, none, none, none, none, none, none] st = mkM (sem (k + 5) C F_Ride___init__) C_Ride [costsV [1, 2, 3], w] st := rfl
  rw [e2]
  exact e
theorem lamC (k : Nat) (C : CE) (rs : List Rdr) (x0 x2 x3 x4 x5 x6 x7 x9 x10 x11 : Option MV) (st : Sto) (h : rs ∈ wideL) :
    mkC (sem (k + 5) C) [x0, some (costsV [1, 2, 3]), x2, x3, x4, x5, x6, x7, some (ridersV rs), x9, x10, x11] [] st = some (.error (C_TooMany, [("limit", .int 4)]), st) := by
  have lo : lowX st.length (C_TooMany, [("limit", .int 4)]) = true := by simp [lowX, lowFs, lowV]
  have e := mk_err (args := [costsV [1, 2, 3], ridersV rs]) lo (init_many k C st.length rs (st ++ [.ins C_Ride []]) h)
  show finE st (eCall _ _ [none, some (costsV [1, 2, 3]), none, none, none, none, none, none, some (ridersV rs), none, none, none] st) = _
  have e2 : eCall (mkM (sem (k + 5) C F_Ride___init__) C_Ride) (aCons (eVar 1) (aCons (eVar 8) (aNil))) [none, some (costsV [1, 2, 3]), none, none, none, none, none, none, some (ridersV rs), none, none, none] st = mkM (sem (k + 5) C F_Ride___init__) C_Ride [costsV [1, 2, 3], ridersV rs] st := rfl
  rw [e2]
  exact e
theorem lamD (k : Nat) (C : CE) (v w s : MV) (x0 x1 x4 x5 x6 x7 x8 x9 x10 x11 : Option MV) (st : Sto) (h : BadC j st v s) :
    mkD (sem (k + 5) C) [x0, x1, some w, some v, x4, x5, x6, x7, x8, x9, x10, x11] [] st = some (.error (C_InvalidCosts, [("index", s)]), st) := by
  have lo : lowX st.length (C_InvalidCosts, [("index", s)]) = true := by
    have ls : lowV st.length s = true := by cases h <;> rfl
    simp [lowX, lowFs, ls]
  have e0 := init_costs k C st.length v w s (st ++ [.ins C_Ride []]) (h.keep Kp.app)
  have e := mk_err (args := []) (f := fun ys st => sem (k + 5) C F_Ride___init__ (arrG .non sh_Ride___init___1_riders_costs ys [w, v] []) st) lo e0
  exact e
def Nm (kx : Nat) (w f : Str) : Prop := (kx = C_InvalidCosts ∧ w = "InvalidCosts" ∧ f = "index") ∨ (kx = C_InvalidRiders ∧ w = "InvalidRiders" ∧ f = "index") ∨ (kx = C_TooMany ∧ w = "TooMany" ∧ f = "limit")
theorem outcome_ok (C : CE) (lv kx : Nat) (g : Fn) (v : MV) (w f : Str) (st : Sto) (hl : lv ≤ 9) (hw : Nm kx w f) (hg : g [] st = some (.error (kx, [(f, v)]), st)) :
    sem 10 (C ++ [⟨lv, 0, g⟩]) F__law_outcome [.fn (1000 + C.length)] st = ret (.ref st.length) (st ++ [.lst [.str w, v, .bl true]]) := by
  have key : Wp (sem 10 (C ++ [⟨lv, 0, g⟩]) F__law_outcome [.fn (1000 + C.length)] st) fun u st' => u = .ref st.length ∧ st' = st ++ [.lst [.str w, v, .bl true]] := by
    have hat : sem 10 (C ++ [⟨lv, 0, g⟩]) F__law_outcome = _ := at__law_outcome 9 _
    rw [hat, wp_def]
    have har : (sv 9 (C ++ [⟨lv, 0, g⟩])).ar (1000 + C.length) = 0 := by
      show arOf DT (C ++ [⟨lv, 0, g⟩]) (1000 + C.length) = 0
      unfold arOf
      rw [if_pos (by omega), show 1000 + C.length - 1000 = C.length by omega]
      simp
    have hS : (sv 9 (C ++ [⟨lv, 0, g⟩])).S (1000 + C.length) [] st = some (.error (kx, [(f, v)]), st) := by
      show semL DT den 9 (C ++ [⟨lv, 0, g⟩]) (1000 + C.length) [] st = _
      rw [sem_clo]
      unfold cloAt
      rw [if_pos (by simp)]
      simp only [List.getElem?_concat_length]
      rw [if_pos hl]
      exact hg
    simp only [D__law_outcome]
    generalize sv 9 (C ++ [⟨lv, 0, g⟩]) = vv at har hS
    have lv' : lowV st.length (.ref st.length) = false := by unfold lowV; simp
    have hst : CS.start 3 [MV.fn (1000 + C.length)] = [some (.fn (1000 + C.length)), none, none] := rfl
    have hst' : CS.start dt__law_outcome.N.length [MV.fn (1000 + C.length)] = [some (.fn (1000 + C.length)), none, none] := rfl
    first | rw [hst] | rw [hst']
    rw [s_sq, s_tryN]
    simp only [s_sq, s_as, e_callV, List.getElem?_cons_zero, har, if_true, a_nil, getE hS, thn_nx, thn_exc]
    rcases hw with ⟨rfl, rfl, rfl⟩ | ⟨rfl, rfl, rfl⟩ | ⟨rfl, rfl, rfl⟩
    · refine pN_yes (show tt_InvalidCosts C_InvalidCosts = some true by decide) ?_
      refine n_ret ?_
      simp [lv']
    · rw [pN_no (show tt_InvalidCosts C_InvalidRiders = some false by decide)]
      refine pN_yes (show tt_InvalidRiders C_InvalidRiders = some true by decide) ?_
      refine n_ret ?_
      simp [lv']
    · rw [pN_no (show tt_InvalidCosts C_TooMany = some false by decide), pN_no (show tt_InvalidRiders C_TooMany = some false by decide)]
      refine pN_yes (show tt_TooMany C_TooMany = some true by decide) ?_
      refine n_ret ?_
      simp [lv']
  obtain ⟨v, st', e, rfl, rfl⟩ := key.get
  exact e
theorem out_eq (C : CE) (mk : (Nat → Fn) → MEnv → Fn) (kx : Nat) (v : MV) (w f : Str) (ρ : MEnv) (st : Sto) (hw : Nm kx w f) (hn : noFn (1000 + C.length) v = true)
    (hg : mk (sem 7 (C ++ [dummyC])) ρ [] st = some (.error (kx, [(f, v)]), st)) :
    eCallL (sv 10 C) F__law_outcome 1 (mk (sv 10 C).B) 0 (aNil) ρ st = ret (.ref st.length) (st ++ [.lst [.str w, v, .bl true]]) := by
  have e2 := outcome_ok C 8 kx (mk (sem 7 (C ++ [dummyC])) ρ) v w f st (by decide) hw hg
  have hB : (sv 10 C).B = sem 7 (C ++ [dummyC]) := rfl
  have hX : ∀ g, (sv 10 C).X 0 g F__law_outcome = sem 10 (C ++ [⟨8, 0, g⟩]) F__law_outcome := fun g => rfl
  have hok : (sv 10 C).ok = true := rfl
  have hnn : (sv 10 C).n = 1000 + C.length := rfl
  refine eq_of_wp ?_
  rw [e_callL, hok, if_pos rfl, a_nil]
  rw [hB, hX, hnn]
  show Wp (leave (noFn (1000 + C.length)) (1000 + C.length) st (sem 10 (C ++ [⟨8, 0, _⟩]) F__law_outcome [.fn (1000 + C.length)] st)) _ _
  rw [e2]
  have fr := stFree_snoc (n := 1000 + C.length) (st := st) (o := .lst [.str w, v, .bl true]) (by simp [noFnO, noFns, noFn, hn])
  show Wp (if (stFree (1000 + C.length) st (st ++ [.lst [.str w, v, .bl true]]) && noFn (1000 + C.length) (.ref st.length)) = true then some (Except.ok (MV.ref st.length), st ++ [MO.lst [.str w, v, .bl true]]) else none) _ _
  rw [fr]
  exact ⟨rfl, rfl⟩
end Kk02
namespace Kk02
open PySem PySem.Spec L2 CS
variable {j : Nat}
theorem lows_app {n : Nat} : ∀ {xs ys : List MV}, lowVs n (xs ++ ys) = (lowVs n xs && lowVs n ys)
  | [], ys => by simp [lowVs]
  | x :: xs, ys => by simp [lowVs, lows_app (xs := xs), Bool.and_assoc]
theorem gc_at {st st1 : Sto} {i : Nat} {o : MO} (hi : i < st.length) (h : st1[i]? = some o) : (gcS st st1)[i]? = some o := by
  unfold gcS
  split
  · rw [List.getElem?_take_of_lt hi]; exact h
  · exact h
theorem Odd.gc {st st1 : Sto} {v : MV} (h : Odd j st1 v) (l : lowV st.length v = true) : Odd j (gcS st st1) v := by
  cases h with
  | non => exact .non
  | bl b => exact .bl b
  | str x => exact .str x
  | tup xs => exact .tup xs
  | lst h hn => exact .lst (gc_at (by simpa [lowV] using l) h) hn
  | dct h hn => exact .dct (gc_at (by simpa [lowV] using l) h) hn
theorem NoT.gc {st st1 : Sto} {v : MV} (h : NoT j st1 v) (l : lowV st.length v = true) : NoT j (gcS st st1) v := by
  cases h with
  | non => exact .non
  | int b => exact .int b
  | str x => exact .str x
  | lst h hn => exact .lst (gc_at (by simpa [lowV] using l) h) hn
  | dct h hn => exact .dct (gc_at (by simpa [lowV] using l) h) hn
theorem BadC.gcI {st st1 : Sto} {b s : MV} (h : BadC j st1 b s) : BadC j (if lowV st.length (.tup [b, s]) = true then gcS st st1 else st1) b s := by
  split
  · rename_i l0
    have l : lowV st.length b = true := by
      simp only [lowV, lowVs, Bool.and_eq_true] at l0
      exact l0.1
    clear l0
    cases h with
    | noT h => exact .noT (h.gc l)
    | few => exact .few
    | many h => exact .many h
    | at_ pre o post h1 h2 h3 h4 =>
      refine .at_ pre o post h1 h2 h3 (h4.imp_left fun h => h.gc ?_)
      simp only [lowV, lows_app, lowVs, Bool.and_eq_true] at l
      exact l.2.1
  · exact h
theorem BadF.gcI {st st1 : Sto} {b s : MV} (h : BadF j st1 b s) : BadF j (if lowV st.length (.tup [b, s]) = true then gcS st st1 else st1) b s := by
  split
  · rename_i l0
    have l : lowV st.length b = true := by
      simp only [lowV, lowVs, Bool.and_eq_true] at l0
      exact l0.1
    clear l0
    cases h with
    | noT h => exact .noT (h.gc l)
    | few => exact .few
    | many h => exact .many h
    | at_ n o post h1 h2 h3 =>
      refine .at_ n o post h1 h2 ?_
      simp only [lowV, lows_app, lowVs, Bool.and_eq_true] at l
      cases h3 with
      | noT h => exact .noT (h.gc l.2.1)
      | tup h => exact .tup h
  · exact h
theorem jug_ne {st : Sto} {i : Nat} {xs : List MV} (g : JugAt j st) (h : st.length ≤ i) : i ≠ j := by
  have := g.lt; omega
theorem bad_prices_ok (k : Nat) (C : CE) (j : Nat) (st : Sto) (h : JugAt j st) : Wp (sem (k + 3) C F__law_bad_prices [.ref j] st) fun v st' => (∃ b s, v = .tup [b, s] ∧ BadC j st' b s) ∧ Jg j st st' := by
  have hl := h.lt
  have hat : sem (k + 3) C F__law_bad_prices = _ := at__law_bad_prices (k + 2) C
  rw [hat, wp_def]
  have hst : CS.start 4 [MV.ref j] = [some (.ref j), none, none, none] := rfl
  have hst' : CS.start dt__law_bad_prices.N.length [MV.ref j] = [some (.ref j), none, none, none] := rfl
  first | rw [hst] | rw [hst']
  have z0 : 0 ≤ sizeLine := by decide
  have z1 : 1 ≤ sizeLine := by decide
  have z8 : 8 ≤ sizeLine := by decide
  have p6 : ∀ st, powM (.int 10) (.int 6) st = ret (.int 1000000) st := fun _ => m_pow (by decide)
  have p19 : ∀ st, powM (.int 10) (.int 19) st = ret (.int (10 ^ 19)) st := fun _ => m_pow (by decide)
  have ng : ∀ st, negM (.int 1) st = ret (.int (-1)) st := fun _ => rfl
  have ad : ∀ st, addM (.int 1000000) (.int 1) st = ret (.int 1000001) st := fun _ => rfl
  have m13 : ∀ st, mulM (.tup [.int 1]) (.int 13) st = ret (.tup (List.replicate 13 (.int 1))) st := fun _ => rfl
  simp only [D__law_bad_prices]
  rw [s_sq, s_pr]
  simp only [e_call, e_op, e_un, e_lst, e_tup, a_cons, a_nil, e_c, e_var, List.getElem?_cons_zero, List.getElem?_cons_succ, wp_ret, ng, p6, p19, ad, List.length_cons, List.length_nil, Nat.zero_add, Nat.reduceAdd, z0, z1, z8, if_true]
  obtain ⟨L0, hL0⟩ : ∃ L0, L0 = [MV.non, .int (-1), .bl true, .str "3", .tup [.int 3], .int 1000001, .ref st.length, .int (10 ^ 19)] := ⟨_, rfl⟩
  rw [← hL0]
  have G := ((Jg.refl h).app [.lst []]).app [.lst L0]
  have hx : CS.listOf (st ++ [.lst []] ++ [.lst L0]) (st ++ [MO.lst []]).length = some L0 := list_at (by simp)
  refine Wp.quiet (one_ok k C j (st ++ [MO.lst []]).length L0 (st ++ [.lst []] ++ [.lst L0]) G.jug hx (by simp; omega) (by simp [hL0]) (by simp [hL0])) ?_
  rintro v1 st1 ⟨hv1, g1⟩
  have G1 := G.trans g1
  have b1 : BadCost j st1 v1 := by
    have e : st1[st.length]? = some (.lst []) := by
      rw [g1.at_ st.length (by simp) (by omega)]
      simp
    simp only [hL0, List.mem_cons, List.not_mem_nil, or_false] at hv1
    rcases hv1 with rfl | rfl | rfl | rfl | rfl | rfl | rfl | rfl
    · exact .inl .non
    · exact .inr ⟨_, rfl, by decide⟩
    · exact .inl (.bl _)
    · exact .inl (.str _)
    · exact .inl (.tup _)
    · exact .inr ⟨_, rfl, by decide⟩
    · exact .inl (.lst e (by omega))
    · exact .inr ⟨_, rfl, by decide⟩
  refine Wp.quiet (drop_ok (k + 1) C j 4 st1 G1.jug (by decide) (by decide)) ?_
  rintro v2 st2 ⟨⟨d, rfl, d0, d1⟩, g2⟩
  have G2 := G1.trans g2
  have b2 : BadCost j st2 v1 := b1.imp_left (Odd.keep (.of g2))
  have hlt2 : j < st2.length := g2.jug.lt
  have z2 : 2 ≤ sizeLine := by decide
  have z3 : 3 ≤ sizeLine := by decide
  have z5 : 5 ≤ sizeLine := by decide
  have z9 : 9 ≤ sizeLine := by decide
  simp only [List.set_cons_succ, List.set_cons_zero, wp_ret]
  show WpS (some (Fl.nx, _, _)) _
  rw [show ∀ (ρ : MEnv) (s : Sto) (PS : Fl → MEnv → Sto → Prop), WpS (some (Fl.nx, ρ, s)) PS = PS .nx ρ s from fun _ _ _ => rfl]
  rw [thn_nx, s_sq, s_as]
  simp only [e_call, e_op, e_un, e_lst, e_tup, a_cons, a_nil, e_c, e_var, List.getElem?_cons_zero, List.getElem?_cons_succ, wp_ret, m13, List.length_cons, List.length_nil, Nat.zero_add, Nat.reduceAdd, z0, z1, z2, z5, if_true]
  rw [g_nm, thn_nx, s_sq]
  simp only [List.set_cons_succ, List.set_cons_zero]
  obtain ⟨pre, q1, q2, q3, q4⟩ : ∃ pre : List Int, (∀ x ∈ pre, 0 ≤ x ∧ x ≤ 1000000) ∧ pre.length ≤ 3 ∧ d = pre.length ∧ ∀ x3 st', eOp addM (eSl (eTup (aCons (eC (.int 1)) (aCons (eC (.int 2)) (aCons (eC (.int 3)) (aNil))))) (oNone) (oSome (eVar 2))) (eTup (aCons (eVar 1) (aCons (eC .non) (aNil)))) [some (.ref j), some v1, some (.int d), x3] st' = ret (.tup (pre.map .int ++ [v1, .non])) st' := by
    obtain rfl | rfl | rfl | rfl : d = 0 ∨ d = 1 ∨ d = 2 ∨ d = 3 := by omega
    · exact ⟨[], by decide, by decide, rfl, fun _ _ => rfl⟩
    · exact ⟨[1], by decide, by decide, rfl, fun _ _ => rfl⟩
    · exact ⟨[1, 2], by decide, by decide, rfl, fun _ _ => rfl⟩
    · exact ⟨[1, 2, 3], by decide, by decide, rfl, fun _ _ => rfl⟩
  subst q3
  obtain ⟨M, hM⟩ : ∃ M, M = [MV.tup [.non, .non], .tup [.ref st2.length, .non], .tup [.tup [], .non], .tup [.tup (List.replicate 13 (.int 1)), .non], .tup [.str "12", .non]] := ⟨_, rfl⟩
  have hML : M.length = 5 := by rw [hM]; rfl
  rw [← hM]
  have e0 : (st2 ++ [MO.lst [.int 1, .int 2]] ++ [.lst M]) = st2 ++ [MO.lst [.int 1, .int 2], .lst M] := by simp
  have e1 : (st2 ++ [MO.lst [.int 1, .int 2]]).length = st2.length + 1 := by simp
  rw [e0, e1]
  have hx2 : (st2 ++ [MO.lst [.int 1, .int 2], .lst M])[st2.length + 1]? = some (.lst M) := by simp
  have s5 : M.length < sizeLine := by rw [hML]; decide
  rw [s_ex]
  simp only [e_app, e_var, List.getElem?_cons_zero, List.getElem?_cons_succ, wp_ret, e_tup, a_cons, a_nil, wp_bnd, q4, List.length_cons, List.length_nil, Nat.zero_add, Nat.reduceAdd, z2, if_true, hx2, s5, list_at hx2]
  rw [thn_nx, s_sq]
  obtain ⟨N, hN⟩ : ∃ N, N = M ++ [MV.tup [.tup (pre.map .int ++ [v1, .non]), .int pre.length]] := ⟨_, rfl⟩
  have hNL : N.length = 6 := by rw [hN, List.length_append, hML]; rfl
  have hset : (st2 ++ [MO.lst [.int 1, .int 2], .lst M]).set (st2.length + 1) (.lst N) = st2 ++ [MO.lst [.int 1, .int 2], .lst N] := by simp
  simp only [← hN, hset]
  obtain ⟨S3, hS3⟩ : ∃ S3, S3 = st2 ++ [MO.lst [.int 1, .int 2], .lst N] := ⟨_, rfl⟩
  rw [← hS3]
  obtain ⟨N2, hN2⟩ : ∃ N2, N2 = [MV.tup [.ref S3.length, .non], .tup [.int 5, .non], .tup [.tup [v1], .int 0]] := ⟨_, rfl⟩
  have hx3 : (S3 ++ [.dct] ++ [.lst N2])[st2.length + 1]? = some (.lst N) := by rw [hS3]; simp
  have hx4 : (S3 ++ [.dct] ++ [.lst N2])[(S3 ++ [MO.dct]).length]? = some (.lst N2) := by simp
  have hN2L : N2.length = 3 := by rw [hN2]; rfl
  have ead := m_addR hx3 hx4 (by rw [hNL, hN2L]; decide)
  have G3 : Jg j st S3 := by rw [hS3]; exact G2.app _
  have G4 := ((G3.app [.dct]).app [.lst N2]).app [.lst (N ++ N2)]
  rw [s_rt]
  simp only [e_call, e_op, e_lst, e_tup, wp_dct, a_cons, a_nil, e_c, e_var, List.getElem?_cons_zero, List.getElem?_cons_succ, wp_ret, List.length_cons, List.length_nil, Nat.zero_add, Nat.reduceAdd, z1, z2, z3, if_true, ← hN2, ead]
  have hx5 : CS.listOf (S3 ++ [.dct] ++ [.lst N2] ++ [.lst (N ++ N2)]) (S3 ++ [MO.dct] ++ [MO.lst N2]).length = some (N ++ N2) := list_at (by simp)
  have l9 : (N ++ N2).length = 9 := by rw [List.length_append, hNL, hN2L]
  refine Wp.quiet (one_ok k C j (S3 ++ [MO.dct] ++ [MO.lst N2]).length (N ++ N2) (S3 ++ [.dct] ++ [.lst N2] ++ [.lst (N ++ N2)]) G4.jug hx5 (by have := G3.jug.lt; simp; omega) (by omega) (by omega)) ?_
  rintro v st5 ⟨hv, g5⟩
  have G5 := G4.trans g5
  have b5 : BadCost j st5 v1 := b2.imp_left (Odd.keep fun i o hi he => g5.look (at_app (at_app (at_app (by rw [hS3]; exact at_app he)))) hi)
  have d5 : st5[S3.length]? = some .dct := g5.look (by simp) (by have := G3.jug.lt; omega)
  have l5 : st5[st2.length]? = some (.lst [.int 1, .int 2]) := g5.look (by rw [hS3]; simp) (by omega)
  have nd : S3.length ≠ j := by have := G3.jug.lt; omega
  have nl : st2.length ≠ j := by omega
  have fin : ∃ b s, v = .tup [b, s] ∧ BadC j st5 b s := by
    simp only [hN, hM, hN2, List.mem_append, List.mem_cons, List.not_mem_nil, or_false] at hv
    rcases hv with ((rfl | rfl | rfl | rfl | rfl) | rfl) | (rfl | rfl | rfl)
    · exact ⟨_, _, rfl, .noT .non⟩
    · exact ⟨_, _, rfl, .noT (.lst l5 nl)⟩
    · exact ⟨_, _, rfl, .few⟩
    · exact ⟨_, _, rfl, .many (List.length_replicate ..)⟩
    · exact ⟨_, _, rfl, .noT (.str _)⟩
    · exact ⟨_, _, rfl, .at_ pre v1 [.non] q1 q2 (by decide) b5⟩
    · exact ⟨_, _, rfl, .noT (.dct d5 nd)⟩
    · exact ⟨_, _, rfl, .noT (.int _)⟩
    · exact ⟨_, _, rfl, .at_ [] v1 [] (fun _ h => nomatch h) (Nat.zero_le _) (Nat.zero_le _) b5⟩
  obtain ⟨b, s, rfl, hb⟩ := fin
  rw [thn_rt, finP_rt]
  exact ⟨⟨b, s, rfl, hb.gcI⟩, G5.gcI hl⟩
end Kk02
namespace Kk02
open PySem PySem.Spec L2 CS
variable {j : Nat}
theorem BadR.keep {st st' : Sto} {v : MV} (g : Kp j st st') (h : BadR j st v) : BadR j st' v := match h with
  | .noT h => .noT (h.keep g)
  | .tup h => .tup h
theorem wps_some {PS : Fl → MEnv → Sto → Prop} {f : Fl} {ρ : MEnv} {s : Sto} : WpS (some (f, ρ, s)) PS = PS f ρ s := id rfl
theorem bad_folk_ok (k : Nat) (C : CE) (j : Nat) (st : Sto) (h : JugAt j st) : Wp (sem (k + 3) C F__law_bad_folk [.ref j] st) fun v st' => (∃ b s, v = .tup [b, s] ∧ BadF j st' b s) ∧ Jg j st st' := by
  have hl := h.lt
  have hat : sem (k + 3) C F__law_bad_folk = _ := at__law_bad_folk (k + 2) C
  rw [hat, wp_def]
  have hst : CS.start 5 [MV.ref j] = [some (.ref j), none, none, none, none] := rfl
  have hst' : CS.start dt__law_bad_folk.N.length [MV.ref j] = [some (.ref j), none, none, none, none] := rfl
  first | rw [hst] | rw [hst']
  have z0 : 0 ≤ sizeLine := by decide
  have z1 : 1 ≤ sizeLine := by decide
  have z2 : 2 ≤ sizeLine := by decide
  have z3 : 3 ≤ sizeLine := by decide
  have z4 : 4 ≤ sizeLine := by decide
  have z6 : 6 ≤ sizeLine := by decide
  have z9 : 9 ≤ sizeLine := by decide
  have ng : ∀ st, negM (.int 1) st = ret (.int (-1)) st := fun _ => rfl
  simp only [D__law_bad_folk]
  rw [s_sq, s_pr]
  simp only [e_call, e_tup, a_cons, a_nil, e_c, e_var, List.getElem?_cons_zero, List.getElem?_cons_succ, wp_ret, List.length_cons, List.length_nil, Nat.zero_add, Nat.reduceAdd, z3, if_true]
  refine Wp.quiet (drop_ok (k + 1) C j 4 st h (by decide) (by decide)) ?_
  rintro v2 st1 ⟨⟨d, rfl, d0, d1⟩, G1⟩
  simp only [List.set_cons_succ, List.set_cons_zero]
  rw [wps_some, thn_nx, s_sq, s_as]
  simp only [e_un, e_lst, e_tup, a_cons, a_nil, e_c, wp_ret, ng, List.length_cons, List.length_nil, Nat.zero_add, Nat.reduceAdd, z2, z3, z9, if_true]
  obtain ⟨M, hM⟩ : ∃ M, M = [MV.non, .tup [.int 0, .int 3], .ref st1.length, .tup [.int 0, .int 4, .int 1], .tup [.int 2, .int 2, .int 0], .tup [.int (-1), .int 2, .int 0], .tup [.int 0, .int 1, .int 10], .tup [.int 0, .int 1, .int (-1)], .tup [.bl true, .int 2, .int 0]] := ⟨_, rfl⟩
  have hML : M.length = 9 := by rw [hM]; rfl
  rw [← hM]
  have e0 : (st1 ++ [MO.lst [.int 0, .int 3, .int 1]] ++ [.lst M]) = st1 ++ [MO.lst [.int 0, .int 3, .int 1], .lst M] := by simp
  have e1 : (st1 ++ [MO.lst [.int 0, .int 3, .int 1]]).length = st1.length + 1 := by simp
  rw [e0, e1]
  rw [g_nm, thn_nx, s_sq, s_ex]
  simp only [List.set_cons_succ, List.set_cons_zero]
  have hx2 : (st1 ++ [MO.lst [.int 0, .int 3, .int 1], .lst M])[st1.length + 1]? = some (.lst M) := by simp
  have s5 : M.length < sizeLine := by rw [hML]; decide
  simp only [e_app, e_c, e_var, List.getElem?_cons_zero, List.getElem?_cons_succ, wp_ret, e_tup, a_cons, a_nil, wp_bnd, List.length_cons, List.length_nil, Nat.zero_add, Nat.reduceAdd, z3, if_true, hx2, s5, list_at hx2]
  rw [thn_nx, s_sq, s_as]
  obtain ⟨N, hN⟩ : ∃ N, N = M ++ [MV.tup [.int 0, .bl true, .int 0]] := ⟨_, rfl⟩
  have hNL : N.length = 10 := by rw [hN, List.length_append, hML]; rfl
  have hset : (st1 ++ [MO.lst [.int 0, .int 3, .int 1], .lst M]).set (st1.length + 1) (.lst N) = st1 ++ [MO.lst [.int 0, .int 3, .int 1], .lst N] := by simp
  simp only [← hN, hset]
  obtain ⟨S3, hS3⟩ : ∃ S3, S3 = st1 ++ [MO.lst [.int 0, .int 3, .int 1], .lst N] := ⟨_, rfl⟩
  rw [← hS3]
  obtain ⟨N2, hN2⟩ : ∃ N2, N2 = [MV.tup [.int 3, .int 4, .int 0], .tup [.int 1, .int 0, .int 0], .tup [.str "0", .int 1, .int 1], .tup [.int 0, .int 1, .non], .tup [.int 0, .int 1, .int 0, .int 0], .ref S3.length] := ⟨_, rfl⟩
  have hx3 : (S3 ++ [.dct] ++ [.lst N2])[st1.length + 1]? = some (.lst N) := by rw [hS3]; simp
  have hx4 : (S3 ++ [.dct] ++ [.lst N2])[(S3 ++ [MO.dct]).length]? = some (.lst N2) := by simp
  have hN2L : N2.length = 6 := by rw [hN2]; rfl
  have ead := m_addR hx3 hx4 (by rw [hNL, hN2L]; decide)
  have G3 : Jg j st S3 := by rw [hS3]; exact G1.app _
  have G4 := ((G3.app [.dct]).app [.lst N2]).app [.lst (N ++ N2)]
  simp only [e_call, e_op, e_lst, e_tup, wp_dct, a_cons, a_nil, e_c, e_var, List.getElem?_cons_zero, List.getElem?_cons_succ, wp_ret, List.length_cons, List.length_nil, Nat.zero_add, Nat.reduceAdd, z3, z4, z6, if_true, ← hN2, ead]
  have hx5 : CS.listOf (S3 ++ [.dct] ++ [.lst N2] ++ [.lst (N ++ N2)]) (S3 ++ [MO.dct] ++ [MO.lst N2]).length = some (N ++ N2) := list_at (by simp)
  have l9 : (N ++ N2).length = 16 := by rw [List.length_append, hNL, hN2L]
  refine Wp.quiet (one_ok k C j (S3 ++ [MO.dct] ++ [MO.lst N2]).length (N ++ N2) (S3 ++ [.dct] ++ [.lst N2] ++ [.lst (N ++ N2)]) G4.jug hx5 (by have := G3.jug.lt; simp; omega) (by omega) (by omega)) ?_
  rintro o st5 ⟨hv, g5⟩
  have G5 := G4.trans g5
  have b5 : BadR j st5 o := by
    have d5 : st5[S3.length]? = some .dct := g5.look (by simp) (by have := G3.jug.lt; omega)
    have l5 : st5[st1.length]? = some (.lst [.int 0, .int 3, .int 1]) := g5.look (by rw [hS3]; simp) (by have := G1.jug.lt; omega)
    have nd : S3.length ≠ j := by have := G3.jug.lt; omega
    have nl : st1.length ≠ j := by have := G1.jug.lt; omega
    simp only [hN, hM, hN2, List.mem_append, List.mem_cons, List.not_mem_nil, or_false] at hv
    rcases hv with ((rfl | rfl | rfl | rfl | rfl | rfl | rfl | rfl | rfl) | rfl) | (rfl | rfl | rfl | rfl | rfl | rfl)
    · exact .noT .non
    · exact .tup (by simp [badT])
    · exact .noT (.lst l5 nl)
    · exact .tup (by simp [badT])
    · exact .tup (by simp [badT])
    · exact .tup (by simp [badT])
    · exact .tup (by simp [badT])
    · exact .tup (by simp [badT])
    · exact .tup (by simp [badT])
    · exact .tup (by simp [badT])
    · exact .tup (by simp [badT])
    · exact .tup (by simp [badT])
    · exact .tup (by simp [badT])
    · exact .tup (by simp [badT])
    · exact .tup (by simp [badT])
    · exact .noT (.dct d5 nd)
  clear hx2 hx3 hx4 hx5 hv g5 ead G4 hset
  rw [g_nm, thn_nx, s_sq, s_as]
  simp only [List.set_cons_succ, List.set_cons_zero]
  have m7 : ∀ st, mulM (.tup [goodR]) (.int 7) st = ret (.tup (List.replicate 7 goodR)) st := fun _ => rfl
  obtain ⟨n, hn, rfl, md⟩ : ∃ n : Nat, n ≤ 3 ∧ d = n ∧ ∀ st, mulM (.tup [goodR]) (.int d) st = ret (.tup (List.replicate n goodR)) st := by
    obtain rfl | rfl | rfl | rfl : d = 0 ∨ d = 1 ∨ d = 2 ∨ d = 3 := by omega
    · exact ⟨0, by decide, rfl, fun _ => rfl⟩
    · exact ⟨1, by decide, rfl, fun _ => rfl⟩
    · exact ⟨2, by decide, rfl, fun _ => rfl⟩
    · exact ⟨3, by decide, rfl, fun _ => rfl⟩
  have ad : ∀ st, addM (.tup (List.replicate n goodR)) (.tup [o, .non]) st = ret (.tup (List.replicate n goodR ++ [o, .non])) st := fun st => by
    rw [m_addT, if_pos]
    rw [List.length_replicate, sizeLine_eq]; show n + 2 ≤ _; omega
  have hgd : (MV.tup [.int 0, .int 3, .int 1]) = goodR := rfl
  simp only [hgd]
  simp only [e_op, e_lst, e_tup, a_cons, a_nil, e_c, e_var, List.getElem?_cons_zero, List.getElem?_cons_succ, wp_ret, m7, md, ad, List.length_cons, List.length_nil, Nat.zero_add, Nat.reduceAdd, z0, z1, z2, z6, if_true]
  obtain ⟨Q, hQ⟩ : ∃ Q, Q = [MV.tup [.non, .non], .tup [.ref st5.length, .non], .tup [.tup [], .non], .tup [.tup (List.replicate 7 goodR), .non], .tup [goodR, .int 0], .tup [.tup (List.replicate n goodR ++ [o, .non]), .int n]] := ⟨_, rfl⟩
  have hQL : Q.length = 6 := by rw [hQ]; rfl
  rw [← hQ]
  have f0 : (st5 ++ [MO.lst [goodR]] ++ [.lst Q]) = st5 ++ [MO.lst [goodR], .lst Q] := by simp
  have f1 : (st5 ++ [MO.lst [goodR]]).length = st5.length + 1 := by simp
  rw [f0, f1]
  rw [g_nm, thn_nx, s_sq, s_rt]
  simp only [List.set_cons_succ, List.set_cons_zero]
  obtain ⟨S6, hS6⟩ : ∃ S6, S6 = st5 ++ [MO.lst [goodR], .lst Q] := ⟨_, rfl⟩
  rw [← hS6]
  obtain ⟨Q2, hQ2⟩ : ∃ Q2, Q2 = [MV.tup [.str "riders", .non], .tup [.tup [o], .int 0]] := ⟨_, rfl⟩
  have hQ2L : Q2.length = 2 := by rw [hQ2]; rfl
  have hx3 : (S6 ++ [.lst Q2])[st5.length + 1]? = some (.lst Q) := by rw [hS6]; simp
  have hx4 : (S6 ++ [.lst Q2])[S6.length]? = some (.lst Q2) := by simp
  have ead := m_addR hx3 hx4 (by rw [hQL, hQ2L]; decide)
  have G6 : Jg j st S6 := by rw [hS6]; exact G5.app _
  have G7 := (G6.app [.lst Q2]).app [.lst (Q ++ Q2)]
  simp only [e_call, e_op, e_lst, e_tup, a_cons, a_nil, e_c, e_var, List.getElem?_cons_zero, List.getElem?_cons_succ, wp_ret, List.length_cons, List.length_nil, Nat.zero_add, Nat.reduceAdd, z1, z2, if_true, ← hQ2, ead]
  have hx5 : CS.listOf (S6 ++ [.lst Q2] ++ [.lst (Q ++ Q2)]) (S6 ++ [MO.lst Q2]).length = some (Q ++ Q2) := list_at (by simp)
  have l8 : (Q ++ Q2).length = 8 := by rw [List.length_append, hQL, hQ2L]
  refine Wp.quiet (one_ok k C j (S6 ++ [MO.lst Q2]).length (Q ++ Q2) (S6 ++ [.lst Q2] ++ [.lst (Q ++ Q2)]) G7.jug hx5 (by have := G6.jug.lt; simp; omega) (by omega) (by omega)) ?_
  rintro v st8 ⟨hv, g8⟩
  have G8 := G7.trans g8
  have b8 : BadR j st8 o := b5.keep fun i o hi he => g8.look (at_app (at_app (by rw [hS6]; exact at_app he))) hi
  have l9 : st8[st5.length]? = some (.lst [goodR]) := g8.look (by rw [hS6]; simp) (by have := G5.jug.lt; omega)
  have nl : st5.length ≠ j := by have := G5.jug.lt; omega
  have fin : ∃ b s, v = .tup [b, s] ∧ BadF j st8 b s := by
    simp only [hQ, hQ2, List.mem_append, List.mem_cons, List.not_mem_nil, or_false] at hv
    rcases hv with (rfl | rfl | rfl | rfl | rfl | rfl) | (rfl | rfl)
    · exact ⟨_, _, rfl, .noT .non⟩
    · exact ⟨_, _, rfl, .noT (.lst l9 nl)⟩
    · exact ⟨_, _, rfl, .few⟩
    · exact ⟨_, _, rfl, .many (List.length_replicate ..)⟩
    · exact ⟨_, _, rfl, .at_ 0 (.int 0) [.int 3, .int 1] (by decide) (by decide) (.noT (.int 0))⟩
    · exact ⟨_, _, rfl, .at_ n o [.non] hn (by decide) b8⟩
    · exact ⟨_, _, rfl, .noT (.str _)⟩
    · exact ⟨_, _, rfl, .at_ 0 o [] (Nat.zero_le _) (Nat.zero_le _) b8⟩
  obtain ⟨b, s, rfl, hb⟩ := fin
  rw [thn_rt, finP_rt]
  exact ⟨⟨b, s, rfl, hb.gcI⟩, G8.gcI hl⟩
end Kk02
namespace Kk02
open PySem PySem.Spec L2 CS
variable {j : Nat}
def spotL : List MV := [.non, .int 0, .int 1, .int 2, .int 3]
def spotD : List PyData := [.none, .int 0, .int 1, .int 2, .int 3]
theorem small_spot {n : Nat} (h : n ≤ 3) : MV.int (n : Int) ∈ spotL := by
  obtain rfl | rfl | rfl | rfl : n = 0 ∨ n = 1 ∨ n = 2 ∨ n = 3 := by omega
  all_goals simp [spotL]
theorem spotC {st : Sto} {v s : MV} (h : BadC j st v s) : s ∈ spotL := by
  cases h with
  | noT h => simp [spotL]
  | few => simp [spotL]
  | many h => simp [spotL]
  | at_ pre o post h1 h2 h3 h4 => exact small_spot h2
theorem spotF {st : Sto} {v s : MV} (h : BadF j st v s) : s ∈ spotL := by
  cases h with
  | noT h => simp [spotL]
  | few => simp [spotL]
  | many h => simp [spotL]
  | at_ n o post h1 h2 h3 => exact small_spot h1
theorem spot_data {s : MV} (h : s ∈ spotL) : ∃ a ∈ spotD, ∀ st m, dataM st (m + 4) s = some a := by
  simp only [spotL, List.mem_cons, List.not_mem_nil, or_false] at h
  unfold spotD
  rcases h with rfl | rfl | rfl | rfl | rfl
  · exact ⟨.none, by simp, fun u m => by simp [dataM]⟩
  · exact ⟨.int 0, by simp, fun u m => by simp [dataM]⟩
  · exact ⟨.int 1, by simp, fun u m => by simp [dataM]⟩
  · exact ⟨.int 2, by simp, fun u m => by simp [dataM]⟩
  · exact ⟨.int 3, by simp, fun u m => by simp [dataM]⟩
theorem spot_fn {s : MV} {m : Nat} (h : s ∈ spotL) : noFn m s = true := by
  simp only [spotL, List.mem_cons, List.not_mem_nil, or_false] at h
  rcases h with rfl | rfl | rfl | rfl | rfl <;> simp [noFn]
def seenD (a b : PyData) : PyData := .list [.list [.str "InvalidCosts", a, .bool true], .list [.str "InvalidRiders", b, .bool true], .list [.str "TooMany", .int 4, .bool true], .list [.str "InvalidCosts", a, .bool true]]
def okD (d : PyData) : Bool := d.showable && !d.hasDict && decide (d.depth ≤ 60) && d.leavesShort 1925 && decide (d.weight ≤ 8000)
theorem okD_shown {d : PyData} (h : okD d = true) : shownD d = some d.shown := by
  unfold okD at h
  simp only [Bool.and_eq_true, decide_eq_true_eq] at h
  obtain ⟨⟨⟨⟨h1, h2⟩, h3⟩, h4⟩, h5⟩ := h
  unfold shownD
  rw [if_pos]
  simp only [Bool.and_eq_true, decide_eq_true_eq]
  exact ⟨⟨⟨h1, h2⟩, h3⟩, fits_of h4 h5⟩
theorem seen_all : (spotD.all fun a => spotD.all fun b => okD (seenD a b)) = true := by decide +kernel
theorem seen_ok {a b : PyData} (ha : a ∈ spotD) (hb : b ∈ spotD) : shownD (seenD a b) = some (seenD a b).shown := by
  have h := seen_all
  simp only [List.all_eq_true] at h
  exact okD_shown (h a ha b hb)
theorem repr_seen {T : Tb} {S : Sto} {i a b c d : Nat} {v w : MV}
    (hi : S[i]? = some (.lst [.ref a, .ref b, .ref c, .ref d])) (ha : S[a]? = some (.lst [.str "InvalidCosts", v, .bl true])) (hb : S[b]? = some (.lst [.str "InvalidRiders", w, .bl true])) (hc : S[c]? = some (.lst [.str "TooMany", .int 4, .bl true])) (hd : S[d]? = some (.lst [.str "InvalidCosts", v, .bl true])) :
    ∀ da ∈ spotD, ∀ db ∈ spotD, (∀ st m, dataM st (m + 4) v = some da) → (∀ st m, dataM st (m + 4) w = some db) → reprI T [.ref i] S = ret (.str (seenD da db).shown) S := by
  intro da hda db hdb ev ew
  show (match ownG T (.ref i) S with
    | some g => bndP (g [.ref i] S) asStr fun n st1 => ret (.str n) st1
    | none => (match reprD (.ref i) S with | some z => ret (MV.str z) S | none => none)) = _
  rw [own_lst (list_at hi)]
  have ed : dataM S 60 (.ref i) = some (seenD da db) := by
    have l1 := list_at hi
    have l2 := list_at ha
    have l3 := list_at hb
    have l4 := list_at hc
    have l5 := list_at hd
    have e1 := fun m => ev S m
    have e2 := fun m => ew S m
    simp only [dataM, dataMs, l1, l2, l3, l4, l5, seenD, e1, e2, Option.map]
  have e : reprD (.ref i) S = some (seenD da db).shown := by
    show (match dataM S 60 (.ref i) with | some d => shownD d | none => (match dataD S 60 (.ref i) with | some d => shownE d | none => none)) = _
    rw [ed]
    exact seen_ok hda hdb
  rw [e]
theorem app_at {st t : Sto} {k : Nat} : (st ++ t)[st.length + k]? = t[k]? := by
  rw [List.getElem?_append_right (by omega), show st.length + k - st.length = k by omega]
theorem app_set {st t : Sto} {k : Nat} {o : MO} : (st ++ t).set (st.length + k) o = st ++ t.set k o := by
  have h : ¬ st.length + k < st.length := by omega
  simp [List.set_append, h]
noncomputable def tailB (v : SV) (K : DS) : DS := (sSq (sAs (eLst (aCons (eCallL v F__law_outcome 1 (mkA v.B) 0 (aNil)) (aNil))) (gNm 9))
    (sSq (sEx (eApp (eVar 9) (eCallL v F__law_outcome 1 (mkB v.B) 0 (aNil))))
    (sSq (sEx (eApp (eVar 9) (eCallL v F__law_outcome 1 (mkC v.B) 0 (aNil))))
    (sSq (sEx (eApp (eVar 9) (eCallL v F__law_outcome 1 (mkD v.B) 0 (aNil))))
    (sSq (sAs (eLst (aCons (eLst (aCons (eC (.str "InvalidCosts")) (aCons (eVar 4) (aCons (eC (.bl true)) (aNil))))) (aCons (eLst (aCons (eC (.str "InvalidRiders")) (aCons (eVar 6) (aCons (eC (.bl true)) (aNil))))) (aCons (eLst (aCons (eC (.str "TooMany")) (aCons (eC (.int 4)) (aCons (eC (.bl true)) (aNil))))) (aNil))))) (gNm 10))
    (sSq (sEx (eApp (eVar 10) (eLst (aCons (eC (.str "InvalidCosts")) (aCons (eVar 4) (aCons (eC (.bl true)) (aNil)))))))
    (sSq (sIf (asB (eOp (neI (tbOf sp_eq v.S) os_eq) (eCall (reprI (tbOf sp_repr v.S)) (aCons (eVar 9) (aNil))) (eCall (reprI (tbOf sp_repr v.S)) (aCons (eVar 10) (aNil))))) (sSq (sRt (eC (.bl false)))
    (sNx)) (sNx)) K)))))))
theorem tailB_ok (C : CE) (v s w t folk : MV) (rs : List Rdr) (st : Sto) (hc : BadC j st v s) (hf : BadF j st w t) (hr : rs ∈ wideL) (x0 x7 x9 x10 x11 : Option MV) (K : DS) (PS : Fl → MEnv → Sto → Prop)
    (go : ∀ u y9 y10, WpS (K [x0, some (costsV [1, 2, 3]), some folk, some v, some s, some w, some t, x7, some (ridersV rs), y9, y10, x11] (st ++ u)) PS) :
    WpS (tailB (sv 10 C) K [x0, some (costsV [1, 2, 3]), some folk, some v, some s, some w, some t, x7, some (ridersV rs), x9, x10, x11] st) PS := by
  have z1 : 1 ≤ sizeLine := by decide
  have z3 : 3 ≤ sizeLine := by decide
  have ss := spotC hc
  have st' := spotF hf
  have eA : ∀ u y9 y10, eCallL (sv 10 C) F__law_outcome 1 (mkA (sv 10 C).B) 0 (aNil) [x0, some (costsV [1, 2, 3]), some folk, some v, some s, some w, some t, x7, some (ridersV rs), y9, y10, x11] (st ++ u) = ret (.ref (st ++ u).length) (st ++ u ++ [.lst [.str "InvalidCosts", s, .bl true]]) := fun u y9 y10 =>
    out_eq C mkA C_InvalidCosts s "InvalidCosts" "index" _ (st ++ u) (.inl ⟨rfl, rfl, rfl⟩) (spot_fn ss) (lamA 2 _ v w s _ _ _ _ _ _ _ _ _ _ (st ++ u) (hc.keep Kp.app))
  have eB : ∀ u y9 y10, eCallL (sv 10 C) F__law_outcome 1 (mkB (sv 10 C).B) 0 (aNil) [x0, some (costsV [1, 2, 3]), some folk, some v, some s, some w, some t, x7, some (ridersV rs), y9, y10, x11] (st ++ u) = ret (.ref (st ++ u).length) (st ++ u ++ [.lst [.str "InvalidRiders", t, .bl true]]) := fun u y9 y10 =>
    out_eq C mkB C_InvalidRiders t "InvalidRiders" "index" _ (st ++ u) (.inr (.inl ⟨rfl, rfl, rfl⟩)) (spot_fn st') (lamB 2 _ w t _ _ _ _ _ _ _ _ _ _ (st ++ u) (hf.keep Kp.app))
  have eC' : ∀ u y9 y10, eCallL (sv 10 C) F__law_outcome 1 (mkC (sv 10 C).B) 0 (aNil) [x0, some (costsV [1, 2, 3]), some folk, some v, some s, some w, some t, x7, some (ridersV rs), y9, y10, x11] (st ++ u) = ret (.ref (st ++ u).length) (st ++ u ++ [.lst [.str "TooMany", .int 4, .bl true]]) := fun u y9 y10 =>
    out_eq C mkC C_TooMany (.int 4) "TooMany" "limit" _ (st ++ u) (.inr (.inr ⟨rfl, rfl, rfl⟩)) (by simp [noFn]) (lamC 2 _ rs _ _ _ _ _ _ _ _ _ _ (st ++ u) hr)
  have eD : ∀ u y9 y10, eCallL (sv 10 C) F__law_outcome 1 (mkD (sv 10 C).B) 0 (aNil) [x0, some (costsV [1, 2, 3]), some folk, some v, some s, some w, some t, x7, some (ridersV rs), y9, y10, x11] (st ++ u) = ret (.ref (st ++ u).length) (st ++ u ++ [.lst [.str "InvalidCosts", s, .bl true]]) := fun u y9 y10 =>
    out_eq C mkD C_InvalidCosts s "InvalidCosts" "index" _ (st ++ u) (.inl ⟨rfl, rfl, rfl⟩) (spot_fn ss) (lamD 2 _ v folk s _ _ _ _ _ _ _ _ _ _ (st ++ u) (hc.keep Kp.app))
  have eA0 := fun y9 y10 => eA [] y9 y10
  simp only [List.append_nil] at eA0
  obtain ⟨da, hda, ev⟩ := spot_data ss
  obtain ⟨db, hdb, ew⟩ := spot_data st'
  unfold tailB
  rw [s_sq, s_as]
  simp only [e_lst, a_cons, a_nil, eA0, wp_ret, List.length_cons, List.length_nil, Nat.zero_add, Nat.reduceAdd, z1, if_true]
  rw [g_nm, thn_nx, s_sq]
  simp only [List.set_cons_succ, List.set_cons_zero, List.append_assoc, List.cons_append, List.nil_append, List.length_append, List.length_cons, List.length_nil, Nat.zero_add]
  have P1 : (st ++ [MO.lst [.str "InvalidCosts", s, .bl true], .lst [.ref st.length], .lst [.str "InvalidRiders", t, .bl true]])[st.length + 1]? = some (.lst [.ref st.length]) := app_at
  have L1 : CS.listOf (st ++ [.lst [.str "InvalidCosts", s, .bl true], .lst [.ref st.length]]) (st.length + 1) = some [.ref st.length] := list_at app_at
  simp only [s_ex, e_app, e_var, List.getElem?_cons_zero, List.getElem?_cons_succ, wp_ret, L1, wp_bnd, eB, List.append_assoc, List.cons_append, List.nil_append, List.length_append, List.length_cons, List.length_nil, Nat.zero_add, Nat.reduceAdd, P1, z1, app_set, List.set_cons_succ, List.set_cons_zero, show (1 : Nat) < sizeLine by decide, if_true, thn_nx]
  rw [s_sq]
  have L2 : CS.listOf (st ++ [.lst [.str "InvalidCosts", s, .bl true], .lst [.ref st.length, .ref (st.length + 2)], .lst [.str "InvalidRiders", t, .bl true]]) (st.length + 1) = some [.ref st.length, .ref (st.length + 2)] := list_at app_at
  have P2 : (st ++ [MO.lst [.str "InvalidCosts", s, .bl true], .lst [.ref st.length, .ref (st.length + 2)], .lst [.str "InvalidRiders", t, .bl true], .lst [.str "TooMany", .int 4, .bl true]])[st.length + 1]? = some (.lst [.ref st.length, .ref (st.length + 2)]) := app_at
  simp only [s_ex, e_app, e_var, List.getElem?_cons_zero, List.getElem?_cons_succ, wp_ret, L2, wp_bnd, eC', List.append_assoc, List.cons_append, List.nil_append, List.length_append, List.length_cons, List.length_nil, Nat.zero_add, Nat.reduceAdd, P2, z1, app_set, List.set_cons_succ, List.set_cons_zero, show (2 : Nat) < sizeLine by decide, if_true, thn_nx]
  rw [s_sq]
  have L3 : CS.listOf (st ++ [.lst [.str "InvalidCosts", s, .bl true], .lst [.ref st.length, .ref (st.length + 2), .ref (st.length + 3)], .lst [.str "InvalidRiders", t, .bl true], .lst [.str "TooMany", .int 4, .bl true]]) (st.length + 1) = some [.ref st.length, .ref (st.length + 2), .ref (st.length + 3)] := list_at app_at
  have P3 : (st ++ [MO.lst [.str "InvalidCosts", s, .bl true], .lst [.ref st.length, .ref (st.length + 2), .ref (st.length + 3)], .lst [.str "InvalidRiders", t, .bl true], .lst [.str "TooMany", .int 4, .bl true], .lst [.str "InvalidCosts", s, .bl true]])[st.length + 1]? = some (.lst [.ref st.length, .ref (st.length + 2), .ref (st.length + 3)]) := app_at
  simp only [s_ex, e_app, e_var, List.getElem?_cons_zero, List.getElem?_cons_succ, wp_ret, L3, wp_bnd, eD, List.append_assoc, List.cons_append, List.nil_append, List.length_append, List.length_cons, List.length_nil, Nat.zero_add, Nat.reduceAdd, P3, z1, app_set, List.set_cons_succ, List.set_cons_zero, show (3 : Nat) < sizeLine by decide, if_true, thn_nx]
  rw [s_sq, s_as]
  simp only [e_lst, a_cons, a_nil, e_c, e_var, List.getElem?_cons_zero, List.getElem?_cons_succ, wp_ret, List.append_assoc, List.cons_append, List.nil_append, List.length_append, List.length_cons, List.length_nil, Nat.zero_add, Nat.add_assoc, Nat.reduceAdd, z3, if_true]
  rw [g_nm, thn_nx, s_sq]
  simp only [List.set_cons_succ, List.set_cons_zero]
  have L4 : CS.listOf (st ++ [MO.lst [.str "InvalidCosts", s, .bl true], .lst [.ref st.length, .ref (st.length + 2), .ref (st.length + 3), .ref (st.length + 4)], .lst [.str "InvalidRiders", t, .bl true], .lst [.str "TooMany", .int 4, .bl true], .lst [.str "InvalidCosts", s, .bl true], .lst [.str "InvalidCosts", s, .bl true], .lst [.str "InvalidRiders", t, .bl true], .lst [.str "TooMany", .int 4, .bl true], .lst [.ref (st.length + 5), .ref (st.length + 6), .ref (st.length + 7)]]) (st.length + 8) = some [.ref (st.length + 5), .ref (st.length + 6), .ref (st.length + 7)] := list_at app_at
  have P4 : (st ++ [MO.lst [.str "InvalidCosts", s, .bl true], .lst [.ref st.length, .ref (st.length + 2), .ref (st.length + 3), .ref (st.length + 4)], .lst [.str "InvalidRiders", t, .bl true], .lst [.str "TooMany", .int 4, .bl true], .lst [.str "InvalidCosts", s, .bl true], .lst [.str "InvalidCosts", s, .bl true], .lst [.str "InvalidRiders", t, .bl true], .lst [.str "TooMany", .int 4, .bl true], .lst [.ref (st.length + 5), .ref (st.length + 6), .ref (st.length + 7)], .lst [.str "InvalidCosts", s, .bl true]])[st.length + 8]? = some (.lst [.ref (st.length + 5), .ref (st.length + 6), .ref (st.length + 7)]) := app_at
  simp only [s_ex, e_app, e_var, e_lst, e_c, a_cons, a_nil, List.getElem?_cons_zero, List.getElem?_cons_succ, wp_ret, L4, wp_bnd, List.append_assoc, List.cons_append, List.nil_append, List.length_append, List.length_cons, List.length_nil, Nat.zero_add, Nat.add_assoc, Nat.reduceAdd, P4, z3, app_set, List.set_cons_succ, List.set_cons_zero, show (3 : Nat) < sizeLine by decide, if_true, thn_nx]
  rw [s_sq, s_if]
  obtain ⟨F, hF⟩ : ∃ F, F = st ++ [MO.lst [.str "InvalidCosts", s, .bl true], .lst [.ref st.length, .ref (st.length + 2), .ref (st.length + 3), .ref (st.length + 4)], .lst [.str "InvalidRiders", t, .bl true], .lst [.str "TooMany", .int 4, .bl true], .lst [.str "InvalidCosts", s, .bl true], .lst [.str "InvalidCosts", s, .bl true], .lst [.str "InvalidRiders", t, .bl true], .lst [.str "TooMany", .int 4, .bl true], .lst [.ref (st.length + 5), .ref (st.length + 6), .ref (st.length + 7), .ref (st.length + 9)], .lst [.str "InvalidCosts", s, .bl true]] := ⟨_, rfl⟩
  have a0 : F[st.length]? = some (.lst [.str "InvalidCosts", s, .bl true]) := by rw [hF]; exact app_at (k := 0)
  have a1 : F[st.length + 1]? = some (.lst [.ref st.length, .ref (st.length + 2), .ref (st.length + 3), .ref (st.length + 4)]) := by rw [hF]; exact app_at
  have a2 : F[st.length + 2]? = some (.lst [.str "InvalidRiders", t, .bl true]) := by rw [hF]; exact app_at
  have a3 : F[st.length + 3]? = some (.lst [.str "TooMany", .int 4, .bl true]) := by rw [hF]; exact app_at
  have a4 : F[st.length + 4]? = some (.lst [.str "InvalidCosts", s, .bl true]) := by rw [hF]; exact app_at
  have a5 : F[st.length + 5]? = some (.lst [.str "InvalidCosts", s, .bl true]) := by rw [hF]; exact app_at
  have a6 : F[st.length + 6]? = some (.lst [.str "InvalidRiders", t, .bl true]) := by rw [hF]; exact app_at
  have a7 : F[st.length + 7]? = some (.lst [.str "TooMany", .int 4, .bl true]) := by rw [hF]; exact app_at
  have a8 : F[st.length + 8]? = some (.lst [.ref (st.length + 5), .ref (st.length + 6), .ref (st.length + 7), .ref (st.length + 9)]) := by rw [hF]; exact app_at
  have a9 : F[st.length + 9]? = some (.lst [.str "InvalidCosts", s, .bl true]) := by rw [hF]; exact app_at
  have r1 := fun T => repr_seen (T := T) a1 a0 a2 a3 a4 da hda db hdb ev ew
  have r2 := fun T => repr_seen (T := T) a8 a5 a6 a7 a9 da hda db hdb ev ew
  have hu : ∃ u, F = st ++ u := ⟨_, hF⟩
  rw [← hF]
  simp only [e_as, e_op, e_call, a_cons, a_nil, e_var, List.getElem?_cons_zero, List.getElem?_cons_succ, wp_ret, r1, r2, ni_str, decide_true, Bool.not_true, Bool.false_eq_true, if_false, s_nx, thn_nx]
  obtain ⟨u, rfl⟩ := hu
  exact go _ _ _
end Kk02
namespace Kk02
open PySem PySem.Spec L2 CS
variable {j : Nat}
noncomputable def endB (v : SV) : DS := (sSq (sAs (eOp addM (eOp mulM (eTup (aCons (eTup (aCons (eC (.int 0)) (aCons (eC (.int 1)) (aCons (eC (.int 0)) (aNil))))) (aNil))) (eC (.int 4))) (eOp mulM (eTup (aCons (eTup (aCons (eC (.int 1)) (aCons (eC (.int 3)) (aCons (eC (.int 9)) (aNil))))) (aNil))) (eC (.int 2)))) (gNm 11))
    (sSq (sRt (eOp (eqI (tbOf sp_eq v.S) os_eq) (eLst (aCons (eOp ixM (eFld A_costs "costs" (eCall (mkM (v.S F_Ride___init__) C_Ride) (aCons (eOp mulM (eTup (aCons (eOp powM (eC (.int 10)) (eC (.int 6))) (aNil))) (eC (.int 12))) (aCons (eTup (aCons (eTup (aCons (eC (.int 0)) (aCons (eC (.int 12)) (aCons (eC (.int 9)) (aNil))))) (aNil))) (aNil))))) (eC (.int 11))) (aCons (eCall (lenI (tbOf sp_len v.S)) (aCons (eCall (mkM (v.S F_Ride___init__) C_Ride) (aCons (eVar 1) (aCons (eVar 11) (aNil)))) (aNil))) (aCons (eCall (lenI (tbOf sp_len v.S)) (aCons (eCall (mkM (v.S F_Ride___init__) C_Ride) (aCons (eTup (aCons (eC (.int 0)) (aNil))) (aCons (eTup (aCons (eTup (aCons (eC (.int 0)) (aCons (eC (.int 1)) (aCons (eC (.int 0)) (aNil))))) (aNil))) (aNil)))) (aNil))) (aNil))))) (eLst (aCons (eOp powM (eC (.int 10)) (eC (.int 6))) (aCons (eC (.int 6)) (aCons (eC (.int 1)) (aNil)))))))
    (sNx)))
noncomputable def headB (v : SV) (K : DS) : DS := sSq (sAs (eTup (aCons (eTup (aCons (eC (.int 1)) (aCons (eC (.int 2)) (aCons (eC (.int 3)) (aNil))))) (aCons (eTup (aCons (eTup (aCons (eC (.int 0)) (aCons (eC (.int 3)) (aCons (eC (.int 1)) (aNil))))) (aCons (eTup (aCons (eC (.int 1)) (aCons (eC (.int 2)) (aCons (eC (.int 0)) (aNil))))) (aNil)))) (aNil)))) (gTp (gCn (gNm 1) (gCn (gNm 2) (gNl))) 2))
    (sSq (sAs (eTup (aCons (eCall (v.S F__law_bad_prices) (aCons (eVar 0) (aNil))) (aCons (eCall (v.S F__law_bad_folk) (aCons (eVar 0) (aNil))) (aNil)))) (gTp (gCn (gTp (gCn (gNm 3) (gCn (gNm 4) (gNl))) 2) (gCn (gTp (gCn (gNm 5) (gCn (gNm 6) (gNl))) 2) (gNl))) 2))
    (sSq (sAs (eLst (aCons (eOp mulM (eTup (aCons (eTup (aCons (eC (.int 0)) (aCons (eC (.int 3)) (aCons (eC (.int 1)) (aNil))))) (aNil))) (eC (.int 5))) (aCons (eOp addM (eOp mulM (eTup (aCons (eTup (aCons (eC (.int 0)) (aCons (eC (.int 2)) (aCons (eC (.int 0)) (aNil))))) (aNil))) (eC (.int 3))) (eOp mulM (eTup (aCons (eTup (aCons (eC (.int 1)) (aCons (eC (.int 3)) (aCons (eC (.int 0)) (aNil))))) (aNil))) (eC (.int 2)))) (aCons (eOp mulM (eTup (aCons (eTup (aCons (eC (.int 2)) (aCons (eC (.int 3)) (aCons (eC (.int 9)) (aNil))))) (aNil))) (eC (.int 6))) (aNil))))) (gNm 7))
    (sSq (sAs (eCall (v.S F__law_one) (aCons (eVar 0) (aCons (eVar 7) (aNil)))) (gNm 8)) K)))
theorem rightD (v : SV) : D__law_right v = headB v (tailB v (endB v)) := rfl
theorem eqI_lists {t : Tb} {os : List Nat} {st : Sto} {a b : Nat} {xs ys : List MV} {n k : Nat} (h : CS.listOf st a = some xs) (h' : CS.listOf st b = some ys) (hx : plains n xs = true) (hy : plains k ys = true) (bx : noBls xs = true) (by' : noBls ys = true) (hn : n ≤ 12) (hk : k ≤ 12) : eqI t os (.ref a) (.ref b) st = ret (.bl (eqVs xs ys)) st := by
  show (match ownG t (.ref a) st with
    | some g => if okY os (.ref b) st then bndP (g [.ref a, .ref b] st) asBl fun c st1 => ret (.bl c) st1 else none
    | none => eqM (.ref a) (.ref b) st) = _
  rw [own_lst h]
  show eqM (.ref a) (.ref b) st = _
  unfold eqM
  rw [eqD_lists h h' hx hy bx by' hn hk]
def sixR : List Rdr := List.replicate 4 (0, some 1, 0) ++ List.replicate 2 (1, some 3, 9)
theorem ride_of (n : Nat) (cs : List Int) (rs : List Rdr) (hn : cs.length = n) (h1 : 1 ≤ n ∧ n ≤ 12) (h2 : ∀ c ∈ cs, 0 ≤ c ∧ c ≤ 1000000) (h3 : 1 ≤ rs.length ∧ rs.length ≤ 6) (h4 : (rs.all fun r => match r.2.1 with | some s => decide (r.1 + 1 ≤ s) && decide (s ≤ n) && decide (0 ≤ r.1) && decide (r.1 ≤ (n : Int) - 1) && decide (0 ≤ r.2.2) && decide (r.2.2 ≤ 9) | none => false) = true) (h5 : ((List.range n).all fun (t : Nat) => decide ((abL rs t).length ≤ 4)) = true) : RideOk cs rs := by
  refine ⟨by omega, by omega, h2, h3.1, h3.2, fun r hr => ?_, fun t t0 t1 => ?_⟩
  · have := List.all_eq_true.mp h4 r hr
    rw [hn]
    split at this
    · rename_i s hs
      simp only [Bool.and_eq_true, decide_eq_true_eq] at this
      obtain ⟨⟨⟨⟨⟨a1, a2⟩, a3⟩, a4⟩, a5⟩, a6⟩ := this
      exact ⟨⟨s, hs, a1, a2⟩, a3, a4, a5, a6⟩
    · cases this
  · have := List.all_eq_true.mp h5 t.toNat (List.mem_range.mpr (by omega))
    rw [show ((t.toNat : Nat) : Int) = t by omega] at this
    exact of_decide_eq_true this
theorem ride1 : RideOk (List.replicate 12 1000000) [(0, some 12, 9)] := ride_of 12 _ _ rfl (by decide) (fun c hc => by rw [List.eq_of_mem_replicate hc]; decide) (by decide) (by decide) (by decide)
theorem ride2 : RideOk [1, 2, 3] sixR := ride_of 3 _ _ rfl (by decide) (by decide) (by decide) (by decide) (by decide)
theorem ride3 : RideOk [0] [(0, some 1, 0)] := ride_of 1 _ _ rfl (by decide) (by decide) (by decide) (by decide) (by decide)
theorem endB_ok (C : CE) (x0 x2 x3 x4 x5 x6 x7 x8 x9 x10 x11 : Option MV) (st : Sto) : WpS (endB (sv 10 C) [x0, some (costsV [1, 2, 3]), x2, x3, x4, x5, x6, x7, x8, x9, x10, x11] st) fun fl _ st' => fl = .rt (.bl true) ∧ ∃ u, st' = st ++ u := by
  have e6 : ∀ st, addM (.tup (List.replicate 4 (.tup [.int 0, .int 1, .int 0]))) (.tup (List.replicate 2 (.tup [.int 1, .int 3, .int 9]))) st = ret (ridersV sixR) st := fun _ => rfl
  have m4 : ∀ st, mulM (.tup [.tup [.int 0, .int 1, .int 0]]) (.int 4) st = ret (.tup (List.replicate 4 (.tup [.int 0, .int 1, .int 0]))) st := fun _ => rfl
  have m2 : ∀ st, mulM (.tup [.tup [.int 1, .int 3, .int 9]]) (.int 2) st = ret (.tup (List.replicate 2 (.tup [.int 1, .int 3, .int 9]))) st := fun _ => rfl
  have m12 : ∀ st, mulM (.tup [.int 1000000]) (.int 12) st = ret (costsV (List.replicate 12 1000000)) st := fun _ => rfl
  have p6 : ∀ st, powM (.int 10) (.int 6) st = ret (.int 1000000) st := fun _ => m_pow (by decide)
  have z1 : 1 ≤ sizeLine := by decide
  have z3 : 3 ≤ sizeLine := by decide
  have r1 := fun st => rmake_ok 5 C _ _ st ride1
  have r2 := fun st => rmake_ok 5 C _ _ st ride2
  have r3 := fun st => rmake_ok 5 C _ _ st ride3
  have v1 : (MV.tup [.tup [.int 0, .int 12, .int 9]]) = ridersV [(0, some 12, 9)] := rfl
  have v3 : (MV.tup [.tup [.int 0, .int 1, .int 0]]) = ridersV [(0, some 1, 0)] := rfl
  have c3 : (MV.tup [.int 0]) = costsV [0] := rfl
  unfold endB
  have hS : (sv 10 C).S = sem 10 C := rfl
  rw [hS, s_sq, s_as]
  simp only [e_op, e_tup, a_cons, a_nil, e_c, wp_ret, List.length_cons, List.length_nil, Nat.zero_add, Nat.reduceAdd, z1, z3, if_true, m4, m2, e6]
  rw [g_nm, thn_nx, s_sq, s_rt]
  simp only [List.set_cons_succ, List.set_cons_zero]
  have hv11 : (MV.tup (List.replicate 12 (MV.int 1000000))) = costsV (List.replicate 12 1000000) := rfl
  have ix : ∀ st, ixM (costsV (List.replicate 12 1000000)) (.int 11) st = ret (.int 1000000) st := fun _ => rfl
  have g1 : ∀ (st : Sto) (o : MO), (st ++ [o])[st.length]? = some o := fun st o => by simp
  have l2 : ∀ st, lenI (tbOf sp_len (sem 10 C)) [.ref st.length] (st ++ [.ins C_Ride (rideF [1, 2, 3] sixR)]) = ret (.int 6) (st ++ [.ins C_Ride (rideF [1, 2, 3] sixR)]) := fun st => lenI_ride 9 C _ _ _ _ (g1 _ _) (by decide)
  have l3 : ∀ st, lenI (tbOf sp_len (sem 10 C)) [.ref st.length] (st ++ [.ins C_Ride (rideF [0] [(0, some 1, 0)])]) = ret (.int 1) (st ++ [.ins C_Ride (rideF [0] [(0, some 1, 0)])]) := fun st => lenI_ride 9 C _ _ _ _ (g1 _ _) (by decide)
  simp only [e_op, e_lst, e_call, e_tup, e_fld, a_cons, a_nil, e_c, e_var, List.getElem?_cons_zero, List.getElem?_cons_succ, wp_ret, List.length_cons, List.length_nil, Nat.zero_add, Nat.reduceAdd, z1, z3, if_true, p6, m12, v1, v3, c3, r1, r2, r3, g1, rf_costs, ix, l2, l3]
  have hA : A_costs.contains C_Ride = true := by decide
  simp only [hA, if_true, wp_ret, ix]
  have q : ∀ S : Sto, eqI (tbOf sp_eq (sem 10 C)) os_eq (.ref S.length) (.ref (S ++ [MO.lst [.int 1000000, .int 6, .int 1]]).length) (S ++ [.lst [.int 1000000, .int 6, .int 1]] ++ [.lst [.int 1000000, .int 6, .int 1]]) = ret (.bl true) (S ++ [.lst [.int 1000000, .int 6, .int 1]] ++ [.lst [.int 1000000, .int 6, .int 1]]) := fun S => by
    rw [eqI_lists (xs := [.int 1000000, .int 6, .int 1]) (ys := [.int 1000000, .int 6, .int 1]) (n := 1) (k := 1) (list_at (by simp)) (list_at (by simp)) (by simp) (by simp) (by rfl) (by rfl) (by decide) (by decide)]
    rw [eqVs_self]
  rw [q, wp_ret, thn_rt]
  exact ⟨rfl, _, by simp only [List.append_assoc]; rfl⟩
theorem right_ok (C : CE) (j : Nat) (st : Sto) (h : JugAt j st) : Wp (sem 11 C F__law_right [.ref j] st) fun v st' => v = .bl true ∧ Jg j st st' := by
  have hj := h.lt
  have hat : sem 11 C F__law_right = _ := at__law_right 10 C
  rw [hat, wp_def, rightD]
  have hst : CS.start 12 [MV.ref j] = [some (.ref j), none, none, none, none, none, none, none, none, none, none, none] := rfl
  have hst' : CS.start dt__law_right.N.length [MV.ref j] = [some (.ref j), none, none, none, none, none, none, none, none, none, none, none] := rfl
  first | rw [hst] | rw [hst']
  have z1 : 1 ≤ sizeLine := by decide
  have z2 : 2 ≤ sizeLine := by decide
  have z3 : 3 ≤ sizeLine := by decide
  have hS : (sv 10 C).S = sem 10 C := rfl
  unfold headB
  rw [hS, s_sq, s_as]
  simp only [e_tup, a_cons, a_nil, e_c, wp_ret, List.length_cons, List.length_nil, Nat.zero_add, Nat.reduceAdd, z1, z2, z3, if_true]
  simp only [g_tp, g_cn, g_nm, g_nl, thn_nx, List.length_cons, List.length_nil, Nat.zero_add, Nat.reduceAdd, if_true, List.set_cons_succ, List.set_cons_zero]
  rw [s_sq, s_as]
  simp only [List.set_cons_succ, List.set_cons_zero, e_tup, e_call, a_cons, a_nil, e_var, List.getElem?_cons_zero, List.getElem?_cons_succ, wp_ret]
  refine Wp.quiet (bad_prices_ok 7 C j st h) ?_
  rintro w1 st1 ⟨⟨v, s, rfl, hc⟩, g1⟩
  refine Wp.quiet (bad_folk_ok 7 C j st1 g1.jug) ?_
  rintro w2 st2 ⟨⟨w, t, rfl, hf⟩, g2⟩
  have hc := hc.keep (.of g2)
  simp only [List.length_cons, List.length_nil, Nat.zero_add, Nat.reduceAdd, z2, if_true, wp_ret]
  simp only [g_tp, g_cn, g_nm, g_nl, thn_nx, List.length_cons, List.length_nil, Nat.zero_add, Nat.reduceAdd, if_true, List.set_cons_succ, List.set_cons_zero]
  rw [s_sq, s_as]
  have m5 : ∀ st, mulM (.tup [.tup [.int 0, .int 3, .int 1]]) (.int 5) st = ret (ridersV (List.replicate 5 (0, some 3, 1))) st := fun _ => rfl
  have m33 : ∀ st, mulM (.tup [.tup [.int 0, .int 2, .int 0]]) (.int 3) st = ret (.tup (List.replicate 3 (.tup [.int 0, .int 2, .int 0]))) st := fun _ => rfl
  have m22 : ∀ st, mulM (.tup [.tup [.int 1, .int 3, .int 0]]) (.int 2) st = ret (.tup (List.replicate 2 (.tup [.int 1, .int 3, .int 0]))) st := fun _ => rfl
  have ad : ∀ st, addM (.tup (List.replicate 3 (.tup [.int 0, .int 2, .int 0]))) (.tup (List.replicate 2 (.tup [.int 1, .int 3, .int 0]))) st = ret (ridersV (List.replicate 3 (0, some 2, 0) ++ List.replicate 2 (1, some 3, 0))) st := fun _ => rfl
  have m6 : ∀ st, mulM (.tup [.tup [.int 2, .int 3, .int 9]]) (.int 6) st = ret (ridersV (List.replicate 6 (2, some 3, 9))) st := fun _ => rfl
  simp only [e_op, e_lst, e_tup, a_cons, a_nil, e_c, wp_ret, List.length_cons, List.length_nil, Nat.zero_add, Nat.reduceAdd, z1, z3, if_true, m5, m33, m22, ad, m6]
  rw [g_nm, thn_nx, s_sq, s_as]
  simp only [List.set_cons_succ, List.set_cons_zero, e_call, a_cons, a_nil, e_var, List.getElem?_cons_zero, List.getElem?_cons_succ, wp_ret]
  obtain ⟨Lw, hLw⟩ : ∃ Lw, Lw = [ridersV (List.replicate 5 (0, some 3, 1)), ridersV (List.replicate 3 (0, some 2, 0) ++ List.replicate 2 (1, some 3, 0)), ridersV (List.replicate 6 (2, some 3, 9))] := ⟨_, rfl⟩
  rw [← hLw]
  have G2 := g1.trans g2
  have G3 := G2.app [.lst Lw]
  have hx : CS.listOf (st2 ++ [.lst Lw]) st2.length = some Lw := list_at (by simp)
  refine Wp.quiet (one_ok 8 C j st2.length Lw (st2 ++ [.lst Lw]) G3.jug hx (by have := G2.jug.lt; omega) (by simp [hLw]) (by simp [hLw])) ?_
  rintro cr st4 ⟨hcr, g4⟩
  obtain ⟨rs, hrs, rfl⟩ : ∃ rs, rs ∈ wideL ∧ cr = ridersV rs := by
    simp only [hLw, List.mem_cons, List.not_mem_nil, or_false] at hcr
    rcases hcr with rfl | rfl | rfl
    · exact ⟨_, by simp [wideL], rfl⟩
    · exact ⟨_, by simp [wideL], rfl⟩
    · exact ⟨_, by simp [wideL], rfl⟩
  have kp : Kp j st2 st4 := fun i o hi he => g4.look (at_app he) hi
  have G4 := G3.trans g4
  rw [g_nm, thn_nx]
  simp only [List.set_cons_succ, List.set_cons_zero]
  refine tailB_ok C v s w t _ rs st4 (hc.keep kp) (hf.keep kp) hrs _ _ _ _ _ _ _ fun u y9 y10 => ?_
  refine WpS.imp (endB_ok C _ _ _ _ _ _ _ _ _ _ _ (st4 ++ u)) ?_
  rintro fl ρ' st5 ⟨rfl, u2, rfl⟩
  rw [finP_rt]
  exact ⟨rfl, ((G4.app u).app u2).gcI hj⟩
end Kk02
namespace Kk02
open PySem PySem.Spec L2 CS
theorem jug_ok (k : Nat) (C : CE) (i n : Nat) (ns : List Int) (st : Sto) (h : CS.listOf st i = some (ns.map .int)) : Wp (sem (k + 1) C F__law_jug [.ref i, .int n] st) fun v st' => ∃ j, v = .ref j ∧ JugAt j st' ∧ st.length ≤ j ∧ st.length ≤ st'.length ∧ ∀ i, i < st.length → st'[i]? = st[i]? := by
  rw [at__law_jug, wp_def]
  simp only [D__law_jug, s_sq, s_as]
  have own : Wp (eIf (asB (eOp ltM (eVar 1) (eCall (lenI (tbOf sp_len (sem k C))) (aCons (eVar 0) (aNil))))) (eCall intM (aCons (eOp ixM (eVar 0) (eVar 1)) (aNil))) (eOp addM (eOp mulM (eC (.int 53)) (eVar 1)) (eC (.int 31))) (CS.start 5 [.ref i, .int n]) st) fun v st' => (∃ z : Int, v = .int z) ∧ st' = st := by
    simp [start_def, m_lenIR h]
    split
    · rename_i hn
      have e : atI (ns.map MV.int) (n : Int) = some (.int ns[n]) := at_nat (by simp [hn])
      simp [m_ixR h e]
    · simp [m_mulL]
  refine Wp.quiet own ?_
  rintro v st1 ⟨⟨z, rfl⟩, rfl⟩
  obtain ⟨l, hl⟩ : ∃ l : List Int, cutM (ns.map .int) none (some 12) = l.map .int := ⟨ns.take 12, by rw [cut_take (by decide), List.map_take]; rfl⟩
  have hL : CS.listOf (st1 ++ [.lst (l.map MV.int)]) st1.length = some (l.map .int) := list_at (by simp)
  have hof : isOf (.ref st1.length) (st1 ++ [.lst (l.map MV.int)]) = some (.l st1.length (l.map MV.int).length) := of_ref hL
  have u1 : ∀ (x : Int) (st : Sto), mulM (.int 1321) (.int x) st = ret (.int (1321 * x)) st := fun _ _ => m_mulL (by decide)
  have u2 : ∀ (x : Int) (st : Sto), mulM (.int x) (.int 40037) st = ret (.int (x * 40037)) st := fun _ _ => m_mulR (by decide)
  have u3 : ∀ (x : Int) (st : Sto), mulM (.int x) (.int 19) st = ret (.int (x * 19)) st := fun _ _ => m_mulR (by decide)
  have u6 : ∀ (x : Int) (st : Sto), modM (.int x) (.int 1999999751) st = ret (.int (x % 1999999751)) st := fun _ _ => m_mod (by decide)
  have u7 : ∀ (st : Sto), powM (.int 10) (.int 13) st = ret (.int 10000000000000) st := fun _ => m_pow (by decide)
  simp [start_def, u1, m_slR h, hl, hof]
  refine wp_forN rfl (fun _ ρ st' => st' = st1 ++ [.lst (l.map MV.int)] ∧ ∃ (m : Int) (x : Option MV), ρ = [some (.ref i), some (.int n), some (.int z), some (.int m), x]) ⟨rfl, _, _, rfl⟩ goes_name (fun a ρ st' ha hI => ?_) (fun ρ st' hI => ?_)
  · obtain ⟨rfl, m, x, rfl⟩ := hI
    have ha : a < l.length := by simpa using ha
    have hg : IM.get (.sq (.l st1.length (l.map MV.int).length)) a (st1 ++ [.lst (l.map MV.int)]) = some (.int l[a]) := by
      rw [get_sq, get_l hL]
      simp [ha]
    refine ⟨_, by simpa using hg, ?_⟩
    simp [u2, u6]
  · obtain ⟨rfl, m, x, rfl⟩ := hI
    have hf : IM.fin (.sq (.l st1.length (l.map MV.int).length)) (st1 ++ [.lst (l.map MV.int)]) = true := by rw [fin_sq]; exact fin_l hL
    refine ⟨by simpa using hf, ?_⟩
    have lv : lowV st1.length (.ref (st1.length + 1)) = false := by unfold lowV; simp
    have tail : ∀ a b c : Int, JugAt (st1.length + 1) (st1 ++ [.lst (l.map MV.int), .lst [.int a, .int b, .int c]]) ∧ ∀ i, i < st1.length → (st1 ++ [MO.lst (l.map MV.int), MO.lst [.int a, .int b, .int c]])[i]? = st1[i]? := fun a b c => ⟨⟨a, b, c, by simp⟩, fun i hi => List.getElem?_append_left hi⟩
    have s3 : 3 ≤ sizeLine := by decide
    simp [u3, u6, u7, lv, s3]
    split
    · exact tail _ _ _
    · split
      · exact tail _ _ _
      · exact tail _ _ _
theorem law_holds : ∀ ns : List Int, ns.length ≤ 63 → ∃ st, sem 12 [] F_law [.ref 0] [.frz (ns.map .int)] = CS.ret (.bl true) st := by
  intro ns hns
  have key : Wp (sem 12 [] F_law [.ref 0] [.frz (ns.map .int)]) fun v _ => v = .bl true := by
    rw [at_law, wp_def]
    have h0 : CS.listOf [.frz (ns.map MV.int)] 0 = some (ns.map .int) := list_fr rfl
    simp [D_law, start_def, m_lenIR h0]
    generalize hm : (if 2 < (if 5 < (ns.length : Int) then 5 else (ns.length : Int)) then (if 5 < (ns.length : Int) then 5 else (ns.length : Int)) else (2 : Int)) = m
    have hb : 2 ≤ m ∧ m ≤ 5 := by
      subst hm
      split <;> split <;> omega
    refine ⟨⟨by omega, by omega⟩, by rw [sizeLine_eq]; omega, ?_⟩
    refine wp_lcN (n := m.toNat) rfl (fun q acc st' => st'[0]? = some (.frz (ns.map .int)) ∧ acc = (List.replicate q true).map .bl) ⟨rfl, rfl⟩ (fun q acc st' hq hI => ?_) (fun acc st' hI => ?_)
    · obtain ⟨hz, rfl⟩ := hI
      refine ⟨_, _, get_rng hq, rfl, ?_⟩
      simp [wipeM]
      refine Wp.quiet (jug_ok 10 [] 0 q ns st' (list_fr hz)) ?_
      rintro v st1 ⟨j, rfl, hj, l1, l2, l3⟩
      have z0 : 0 < st'.length := (List.getElem?_eq_some_iff.mp hz).1
      try simp
      refine Wp.quiet (right_ok [] j st1 hj) ?_
      rintro v st2 ⟨rfl, g⟩
      refine ⟨?_, ?_⟩
      · rw [g.at_ 0 (by omega) (by omega), l3 0 z0]
        exact hz
      · simp [List.replicate_succ']
    · obtain ⟨hz, rfl⟩ := hI
      refine ⟨rfl, ?_⟩
      rw [allL_map]
      simp
  obtain ⟨v, st, e, rfl⟩ := key.get
  exact ⟨st, e⟩
end Kk02
namespace Kk02
open PySem PySem.Spec PyProof.Rows L2 CS
structure Txt (ca : Nat → Option Addr) (tb : List (Addr × Str)) (K : PySem.W.Frag) (mg : Str → Option Value) (p : Pl) (pc : Nat → Addr) : Prop where
  f_is_integer : FnT K mg "is_integer" (p.fa F_is_integer)
  f_is_between : FnT K mg "is_between" (p.fa F_is_between)
  f_check_costs : FnT K mg "check_costs" (p.fa F_check_costs)
  f_is_rider : FnT K mg "is_rider" (p.fa F_is_rider)
  f_check_riders : FnT K mg "check_riders" (p.fa F_check_riders)
  f_aboard_at : FnT K mg "aboard_at" (p.fa F_aboard_at)
  f_is_crowded : FnT K mg "is_crowded" (p.fa F_is_crowded)
  f__law_jug : FnT K mg "_law_jug" (p.fa F__law_jug)
  f__law_drop : FnT K mg "_law_drop" (p.fa F__law_drop)
  f__law_one : FnT K mg "_law_one" (p.fa F__law_one)
  f__law_outcome : FnT K mg "_law_outcome" (p.fa F__law_outcome)
  f__law_bad_prices : FnT K mg "_law_bad_prices" (p.fa F__law_bad_prices)
  f__law_bad_folk : FnT K mg "_law_bad_folk" (p.fa F__law_bad_folk)
  f__law_right : FnT K mg "_law_right" (p.fa F__law_right)
  c_Ride : ClT (adOf ca) K mg "Ride" C_Ride (pc C_Ride)
  mk_Ride : Mk K (pc C_Ride) (p.fa F_Ride___init__)
  y_InvalidCosts : ∃ fI, PySem.Er_indexX.LowTxt K mg "InvalidCosts" "InvalidCosts.__init__" (pc C_InvalidCosts) fI
  yc_InvalidCosts : (adOf ca).ca C_InvalidCosts = some (pc C_InvalidCosts)
  y_InvalidRiders : ∃ fI, PySem.Er_indexX.LowTxt K mg "InvalidRiders" "InvalidRiders.__init__" (pc C_InvalidRiders) fI
  yc_InvalidRiders : (adOf ca).ca C_InvalidRiders = some (pc C_InvalidRiders)
  y_TooMany : ∃ fI, PySem.Er_limitX.LowTxt K mg "TooMany" "TooMany.__init__" (pc C_TooMany) fI
  yc_TooMany : (adOf ca).ca C_TooMany = some (pc C_TooMany)
  e_InvalidCosts : ExcD K (pc C_InvalidCosts)
  e_InvalidRiders : ExcD K (pc C_InvalidRiders)
  e_TooMany : ExcD K (pc C_TooMany)
  ki_InvalidCosts_InputError : PySem.W.kitOne K (.ref (pc C_InvalidCosts)) (.ref (pc C_InputError)) = some true
  ki_InvalidCosts_ValueError : PySem.W.kitOne K (.ref (pc C_InvalidCosts)) (.type "ValueError") = some true
  ki_InvalidRiders_InputError : PySem.W.kitOne K (.ref (pc C_InvalidRiders)) (.ref (pc C_InputError)) = some true
  ki_InvalidRiders_ValueError : PySem.W.kitOne K (.ref (pc C_InvalidRiders)) (.type "ValueError") = some true
  ki_TooMany_ArithmeticError : PySem.W.kitOne K (.ref (pc C_TooMany)) (.type "ArithmeticError") = some true
  ki_TooMany_SizeError : PySem.W.kitOne K (.ref (pc C_TooMany)) (.ref (pc C_SizeError)) = some true
  g_InputError : mg "InputError" = some (.ref (pc C_InputError))
  g_SizeError : mg "SizeError" = some (.ref (pc C_SizeError))
  g_InvalidCosts : mg "InvalidCosts" = some (.ref (pc C_InvalidCosts))
  xm_InvalidCosts : ∀ k C v, ca k = some C → tt_InvalidCosts k = some v → PySem.W.exmOne K (.ref C) (.ref (pc C_InvalidCosts)) = some v
  g_InvalidRiders : mg "InvalidRiders" = some (.ref (pc C_InvalidRiders))
  xm_InvalidRiders : ∀ k C v, ca k = some C → tt_InvalidRiders k = some v → PySem.W.exmOne K (.ref C) (.ref (pc C_InvalidRiders)) = some v
  g_TooMany : mg "TooMany" = some (.ref (pc C_TooMany))
  xm_TooMany : ∀ k C v, ca k = some C → tt_TooMany k = some v → PySem.W.exmOne K (.ref C) (.ref (pc C_TooMany)) = some v
  k_MOST_ABOARD : ∃ w, mg "MOST_ABOARD" = some w ∧ RelV (.int 4) w
  k_MOST_BAGS : ∃ w, mg "MOST_BAGS" = some w ∧ RelV (.int 9) w
  k_MOST_COST : ∃ w, mg "MOST_COST" = some w ∧ RelV (.int 1000000) w
  k_MOST_RIDERS : ∃ w, mg "MOST_RIDERS" = some w ∧ RelV (.int 6) w
  k_MOST_STRETCHES : ∃ w, mg "MOST_STRETCHES" = some w ∧ RelV (.int 12) w
  b_ArithmeticError : mg "ArithmeticError" = none
  b_ValueError : mg "ValueError" = none
  b_abs : mg "abs" = none
  b_all : mg "all" = none
  b_any : mg "any" = none
  b_bool : mg "bool" = none
  b_divmod : mg "divmod" = none
  b_enumerate : mg "enumerate" = none
  b_int : mg "int" = none
  b_isinstance : mg "isinstance" = none
  b_len : mg "len" = none
  b_max : mg "max" = none
  b_min : mg "min" = none
  b_range : mg "range" = none
  b_repr : mg "repr" = none
  b_tuple : mg "tuple" = none
  a_costs : FlsOk (adOf ca) K A_costs "costs"
  a_riders : FlsOk (adOf ca) K A_riders "riders"
  a_told : FlsOk (adOf ca) K A_told "told"
  s_len : SpT (adOf ca) K p "__len__" sp_len
  s_repr : SpT (adOf ca) K p "__repr__" sp_repr
  s_eq : SpT (adOf ca) K p "__eq__" sp_eq
  nf_eq : NfT (adOf ca) K sp_eq os_eq
  ne_eq : NeT (adOf ca) K sp_eq
  nb_len : NbT (adOf ca) K sp_len
  kt : KtOk (adOf ca) K kt_ kb_
  ki : ∀ k C, ca k = some C → (∃ e ∈ kt_, e.1.1 = .o k) ∨ (∃ e ∈ kb_, e.1.1 = k) → ClsI K C
  sh_Ride___init___1_riders_costs : ShapeOk K (p.fd F_Ride___init__) dt_Ride___init__.ps [] sh_Ride___init___1_riders_costs
  lc__law_right : (p.fd F__law_right).code = .ref (p.cs.getD 0 (0, 0)).1
  lm__law_right : p.cs.getD 0 (0, 0) ∈ p.cs
  lt__law_right : ((p.cs.getD 0 (0, 0)).2, (("_law_right" : Str) ++ ".<locals>." ++ "<lambda>" : Str)) ∈ tb
  lu__law_right : ∀ q ∈ tb, q.1 = (p.cs.getD 0 (0, 0)).2 → q.2 = (("_law_right" : Str) ++ ".<locals>." ++ "<lambda>" : Str)
section
variable {A : AD} {P : Program} {w : World} {K : PySem.W.Frag} {mg : Str → Option Value} {base : Heap} {p : Pl} {pc : Nat → Addr} {tb : List (Addr × Str)} {v : SV} {l : Nat} {f : Addr} {cdv : Value} {Ar : Around} {outer : List Env} {s : Shared} {H : Hp} {E : XK}
theorem b_is_integer (T : Txt A.ca tb K mg p pc) (GL : GdL A (cxi dt_is_integer P w K mg base f cdv Ar outer s H E) (fun cls d _ H' => E cls d H') DT p v l) :
    PMSs A (cxi dt_is_integer P w K mg base f cdv Ar outer s H E) (fun cls d _ H' => E cls d H') (defBody dt_is_integer.st) (D_is_integer v.S) := by
  have G := GL.gd
  exact pmss_cons (pms_ret (pm_and (pm_callB (cl_isi T.kt T.ki) (by rfl) T.b_isinstance bb_isinstance (pma_cons (pm_var (i := 0) rfl (by first | exact Or.inl rfl | exact Or.inr (Or.inl rfl) | exact Or.inr (Or.inr rfl)) (by decide) (by decide)) (pma_cons (pm_typ (by rfl) T.b_int bb_int (by decide) (by decide)) (pma_nil) rfl) rfl) (by decide) (by decide) rfl rfl) (pm_one (pm_not (pm_callB (cl_isi T.kt T.ki) (by rfl) T.b_isinstance bb_isinstance (pma_cons (pm_var (i := 0) rfl (by first | exact Or.inl rfl | exact Or.inr (Or.inl rfl) | exact Or.inr (Or.inr rfl)) (by decide) (by decide)) (pma_cons (pm_typ (by rfl) T.b_bool bb_bool (by decide) (by decide)) (pma_nil) rfl) rfl) (by decide) (by decide) rfl rfl)))))
    (pmss_nil)
theorem b_is_between (T : Txt A.ca tb K mg p pc) (GL : GdL A (cxi dt_is_between P w K mg base f cdv Ar outer s H E) (fun cls d _ H' => E cls d H') DT p v l) :
    PMSs A (cxi dt_is_between P w K mg base f cdv Ar outer s H E) (fun cls d _ H' => E cls d H') (defBody dt_is_between.st) (D_is_between v.S) := by
  have G := GL.gd
  exact pmss_cons (pms_ret (pm_and (pm_callP (Gd.cv G F_is_integer dt_is_integer rfl) (by rfl) T.f_is_integer.mg T.f_is_integer.kp (pma_cons (pm_var (i := 0) rfl (by first | exact Or.inl rfl | exact Or.inr (Or.inl rfl) | exact Or.inr (Or.inr rfl)) (by decide) (by decide)) (pma_nil) rfl) (lenA_cons lenA_nil) (by decide) rfl rfl) (pm_one (pm_chain op_leM op_leM (pm_var (i := 1) rfl (by first | exact Or.inl rfl | exact Or.inr (Or.inl rfl) | exact Or.inr (Or.inr rfl)) (by decide) (by decide)) (pm_var (i := 0) rfl (by first | exact Or.inl rfl | exact Or.inr (Or.inl rfl) | exact Or.inr (Or.inr rfl)) (by decide) (by decide)) (pm_var (i := 2) rfl (by first | exact Or.inl rfl | exact Or.inr (Or.inl rfl) | exact Or.inr (Or.inr rfl)) (by decide) (by decide)) (by with_unfolding_all rfl)))))
    (pmss_nil)
theorem b_check_costs (T : Txt A.ca tb K mg p pc) (GL : GdL A (cxi dt_check_costs P w K mg base f cdv Ar outer s H E) (fun cls d _ H' => E cls d H') DT p v l) :
    PMSs A (cxi dt_check_costs P w K mg base f cdv Ar outer s H E) (fun cls d _ H' => E cls d H') (defBody dt_check_costs.st) (D_check_costs v.S) := by
  have G := GL.gd
  have nd : dt_check_costs.N.Nodup := by decide +kernel
  have hp := passes_of (X := cxi dt_check_costs P w K mg base f cdv Ar outer s H E) rfl
  exact pmss_cons (pms_if (L2.PW.pt (pmw_or (pmt_not (pmt_truth (pm_callB (cl_isi T.kt T.ki) (by rfl) T.b_isinstance bb_isinstance (pma_cons (pm_var (i := 0) rfl (by first | exact Or.inl rfl | exact Or.inr (Or.inl rfl) | exact Or.inr (Or.inr rfl)) (by decide) (by decide)) (pma_cons (pm_typ (by rfl) T.b_tuple bb_tuple (by decide) (by decide)) (pma_nil) rfl) rfl) (by decide) (by decide) rfl rfl) (fun _ => rfl))) (pmw_or1 (pmt_not (pmt_chain op_leM op_leM (pm_int) (pm_callB (cl_lenI (Gd.sp G T.s_len rfl)) (by rfl) T.b_len bb_len (pma_cons (pm_var (i := 0) rfl (by first | exact Or.inl rfl | exact Or.inr (Or.inl rfl) | exact Or.inr (Or.inr rfl)) (by decide) (by decide)) (pma_nil) rfl) (by decide) (by decide) rfl rfl) (pm_glob (by rfl) T.k_MOST_STRETCHES (fun _ _ => .int _) (by decide)) (by with_unfolding_all rfl)))))) (pmss_cons ((T.y_InvalidCosts.elim fun _ tl => pms_rs_index T.yc_InvalidCosts (Gd.calm G) (Gd.tk G) tl (Gd.room G) (pm_non) (by rfl) (by decide) rfl rfl))
    (pmss_nil)) (pmss_nil))
    (pmss_cons (pms_for hp (Gd.calm G) (pmi_enum (by rfl) T.b_enumerate (pma_cons (pm_var (i := 0) rfl (by first | exact Or.inl rfl | exact Or.inr (Or.inl rfl) | exact Or.inr (Or.inr rfl)) (by decide) (by decide)) (pma_nil) rfl) rfl) (pmg_tup (Gd.calm G) (pmgs_cons (pmg_name nd (i := 1) rfl (by first | exact Or.inl rfl | exact Or.inr rfl) (by first | exact Or.inl rfl | exact Or.inr rfl)) (pmgs_cons (pmg_name nd (i := 2) rfl (by first | exact Or.inl rfl | exact Or.inr rfl) (by first | exact Or.inl rfl | exact Or.inr rfl)) (pmgs_nil) rfl) rfl) rfl rfl) (pmss_cons (pms_if (pmt_not (pmt_truth (pm_callP (Gd.cv G F_is_between dt_is_between rfl) (by rfl) T.f_is_between.mg T.f_is_between.kp (pma_cons (pm_var (i := 2) rfl (by first | exact Or.inl rfl | exact Or.inr (Or.inl rfl) | exact Or.inr (Or.inr rfl)) (by decide) (by decide)) (pma_cons (pm_int) (pma_cons (pm_glob (by rfl) T.k_MOST_COST (fun _ _ => .int _) (by decide)) (pma_nil) rfl) rfl) rfl) (lenA_cons (lenA_cons (lenA_cons lenA_nil))) (by decide) rfl rfl) (fun _ => rfl))) (pmss_cons ((T.y_InvalidCosts.elim fun _ tl => pms_rs_index T.yc_InvalidCosts (Gd.calm G) (Gd.tk G) tl (Gd.room G) (pm_var (i := 1) rfl (by first | exact Or.inl rfl | exact Or.inr (Or.inl rfl) | exact Or.inr (Or.inr rfl)) (by decide) (by decide)) (by rfl) (by decide) rfl rfl))
    (pmss_nil)) (pmss_nil))
    (pmss_nil)) (fun _ => rfl))
    (pmss_nil))
theorem b_is_rider (T : Txt A.ca tb K mg p pc) (GL : GdL A (cxi dt_is_rider P w K mg base f cdv Ar outer s H E) (fun cls d _ H' => E cls d H') DT p v l) :
    PMSs A (cxi dt_is_rider P w K mg base f cdv Ar outer s H E) (fun cls d _ H' => E cls d H') (defBody dt_is_rider.st) (D_is_rider v.S) := by
  have G := GL.gd
  exact pmss_cons (pms_if (L2.PW.pt (pmw_or (pmt_not (pmt_truth (pm_callB (cl_isi T.kt T.ki) (by rfl) T.b_isinstance bb_isinstance (pma_cons (pm_var (i := 0) rfl (by first | exact Or.inl rfl | exact Or.inr (Or.inl rfl) | exact Or.inr (Or.inr rfl)) (by decide) (by decide)) (pma_cons (pm_typ (by rfl) T.b_tuple bb_tuple (by decide) (by decide)) (pma_nil) rfl) rfl) (by decide) (by decide) rfl rfl) (fun _ => rfl))) (pmw_or (pmt_cmp (op_neI (Gd.sp G T.s_eq rfl) T.nf_eq.ok T.ne_eq.ok (Gd.un G)) (pm_callB (cl_lenI (Gd.sp G T.s_len rfl)) (by rfl) T.b_len bb_len (pma_cons (pm_var (i := 0) rfl (by first | exact Or.inl rfl | exact Or.inr (Or.inl rfl) | exact Or.inr (Or.inr rfl)) (by decide) (by decide)) (pma_nil) rfl) (by decide) (by decide) rfl rfl) (pm_int) (nomark _)) (pmw_or1 (pmt_not (pmt_truth (pm_callP (Gd.cv G F_is_between dt_is_between rfl) (by rfl) T.f_is_between.mg T.f_is_between.kp (pma_cons (pm_ix (pm_var (i := 0) rfl (by first | exact Or.inl rfl | exact Or.inr (Or.inl rfl) | exact Or.inr (Or.inr rfl)) (by decide) (by decide)) (pm_int) (plain_ix fun _ _ _ h => nomatch h)) (pma_cons (pm_int) (pma_cons (pm_bin op_subM (pm_var (i := 1) rfl (by first | exact Or.inl rfl | exact Or.inr (Or.inl rfl) | exact Or.inr (Or.inr rfl)) (by decide) (by decide)) (pm_int)) (pma_nil) rfl) rfl) rfl) (lenA_cons (lenA_cons (lenA_cons lenA_nil))) (by decide) rfl rfl) (fun _ => rfl))))))) (pmss_cons (pms_ret (pm_bl))
    (pmss_nil)) (pmss_nil))
    (pmss_cons (pms_ret (pm_and (pm_callP (Gd.cv G F_is_between dt_is_between rfl) (by rfl) T.f_is_between.mg T.f_is_between.kp (pma_cons (pm_ix (pm_var (i := 0) rfl (by first | exact Or.inl rfl | exact Or.inr (Or.inl rfl) | exact Or.inr (Or.inr rfl)) (by decide) (by decide)) (pm_int) (plain_ix fun _ _ _ h => nomatch h)) (pma_cons (pm_bin op_addM (pm_ix (pm_var (i := 0) rfl (by first | exact Or.inl rfl | exact Or.inr (Or.inl rfl) | exact Or.inr (Or.inr rfl)) (by decide) (by decide)) (pm_int) (plain_ix fun _ _ _ h => nomatch h)) (pm_int)) (pma_cons (pm_var (i := 1) rfl (by first | exact Or.inl rfl | exact Or.inr (Or.inl rfl) | exact Or.inr (Or.inr rfl)) (by decide) (by decide)) (pma_nil) rfl) rfl) rfl) (lenA_cons (lenA_cons (lenA_cons lenA_nil))) (by decide) rfl rfl) (pm_one (pm_callP (Gd.cv G F_is_between dt_is_between rfl) (by rfl) T.f_is_between.mg T.f_is_between.kp (pma_cons (pm_ix (pm_var (i := 0) rfl (by first | exact Or.inl rfl | exact Or.inr (Or.inl rfl) | exact Or.inr (Or.inr rfl)) (by decide) (by decide)) (pm_int) (plain_ix fun _ _ _ h => nomatch h)) (pma_cons (pm_int) (pma_cons (pm_glob (by rfl) T.k_MOST_BAGS (fun _ _ => .int _) (by decide)) (pma_nil) rfl) rfl) rfl) (lenA_cons (lenA_cons (lenA_cons lenA_nil))) (by decide) rfl rfl))))
    (pmss_nil))
theorem b_check_riders (T : Txt A.ca tb K mg p pc) (GL : GdL A (cxi dt_check_riders P w K mg base f cdv Ar outer s H E) (fun cls d _ H' => E cls d H') DT p v l) :
    PMSs A (cxi dt_check_riders P w K mg base f cdv Ar outer s H E) (fun cls d _ H' => E cls d H') (defBody dt_check_riders.st) (D_check_riders v.S) := by
  have G := GL.gd
  have nd : dt_check_riders.N.Nodup := by decide +kernel
  have hp := passes_of (X := cxi dt_check_riders P w K mg base f cdv Ar outer s H E) rfl
  exact pmss_cons (pms_if (L2.PW.pt (pmw_or (pmt_not (pmt_truth (pm_callB (cl_isi T.kt T.ki) (by rfl) T.b_isinstance bb_isinstance (pma_cons (pm_var (i := 0) rfl (by first | exact Or.inl rfl | exact Or.inr (Or.inl rfl) | exact Or.inr (Or.inr rfl)) (by decide) (by decide)) (pma_cons (pm_typ (by rfl) T.b_tuple bb_tuple (by decide) (by decide)) (pma_nil) rfl) rfl) (by decide) (by decide) rfl rfl) (fun _ => rfl))) (pmw_or1 (pmt_not (pmt_chain op_leM op_leM (pm_int) (pm_callB (cl_lenI (Gd.sp G T.s_len rfl)) (by rfl) T.b_len bb_len (pma_cons (pm_var (i := 0) rfl (by first | exact Or.inl rfl | exact Or.inr (Or.inl rfl) | exact Or.inr (Or.inr rfl)) (by decide) (by decide)) (pma_nil) rfl) (by decide) (by decide) rfl rfl) (pm_glob (by rfl) T.k_MOST_RIDERS (fun _ _ => .int _) (by decide)) (by with_unfolding_all rfl)))))) (pmss_cons ((T.y_InvalidRiders.elim fun _ tl => pms_rs_index T.yc_InvalidRiders (Gd.calm G) (Gd.tk G) tl (Gd.room G) (pm_non) (by rfl) (by decide) rfl rfl))
    (pmss_nil)) (pmss_nil))
    (pmss_cons (pms_for hp (Gd.calm G) (pmi_enum (by rfl) T.b_enumerate (pma_cons (pm_var (i := 0) rfl (by first | exact Or.inl rfl | exact Or.inr (Or.inl rfl) | exact Or.inr (Or.inr rfl)) (by decide) (by decide)) (pma_nil) rfl) rfl) (pmg_tup (Gd.calm G) (pmgs_cons (pmg_name nd (i := 2) rfl (by first | exact Or.inl rfl | exact Or.inr rfl) (by first | exact Or.inl rfl | exact Or.inr rfl)) (pmgs_cons (pmg_name nd (i := 3) rfl (by first | exact Or.inl rfl | exact Or.inr rfl) (by first | exact Or.inl rfl | exact Or.inr rfl)) (pmgs_nil) rfl) rfl) rfl rfl) (pmss_cons (pms_if (pmt_not (pmt_truth (pm_callP (Gd.cv G F_is_rider dt_is_rider rfl) (by rfl) T.f_is_rider.mg T.f_is_rider.kp (pma_cons (pm_var (i := 3) rfl (by first | exact Or.inl rfl | exact Or.inr (Or.inl rfl) | exact Or.inr (Or.inr rfl)) (by decide) (by decide)) (pma_cons (pm_var (i := 1) rfl (by first | exact Or.inl rfl | exact Or.inr (Or.inl rfl) | exact Or.inr (Or.inr rfl)) (by decide) (by decide)) (pma_nil) rfl) rfl) (lenA_cons (lenA_cons lenA_nil)) (by decide) rfl rfl) (fun _ => rfl))) (pmss_cons ((T.y_InvalidRiders.elim fun _ tl => pms_rs_index T.yc_InvalidRiders (Gd.calm G) (Gd.tk G) tl (Gd.room G) (pm_var (i := 2) rfl (by first | exact Or.inl rfl | exact Or.inr (Or.inl rfl) | exact Or.inr (Or.inr rfl)) (by decide) (by decide)) (by rfl) (by decide) rfl rfl))
    (pmss_nil)) (pmss_nil))
    (pmss_nil)) (fun _ => rfl))
    (pmss_nil))
theorem b_aboard_at (T : Txt A.ca tb K mg p pc) (GL : GdL A (cxi dt_aboard_at P w K mg base f cdv Ar outer s H E) (fun cls d _ H' => E cls d H') DT p v l) :
    PMSs A (cxi dt_aboard_at P w K mg base f cdv Ar outer s H E) (fun cls d _ H' => E cls d H') (defBody dt_aboard_at.st) (D_aboard_at v.S) := by
  have G := GL.gd
  have nd : dt_aboard_at.N.Nodup := by decide +kernel
  exact pmss_cons (pms_ret (pm_fuseT cll_tuple (by rfl) T.b_tuple bb_tuple (pml_lc (Gd.calm G) nd (pmi_enum (by rfl) T.b_enumerate (pma_cons (pm_var (i := 0) rfl (by first | exact Or.inl rfl | exact Or.inr (Or.inl rfl) | exact Or.inr (Or.inr rfl)) (by decide) (by decide)) (pma_nil) rfl) rfl) (own := [("place", 2), ("rider", 3)]) (blkOk_by (by kernel_rfl)) (fun _ _ _ _ _ => pct_tup (Gd.calm (Gd.blk G _ _ _ _ _)) (pcn_cons nd rfl (by first | exact Or.inl rfl | exact Or.inr rfl) (by first | exact Or.inl rfl | exact Or.inr rfl) (pcn_cons nd rfl (by first | exact Or.inl rfl | exact Or.inr rfl) (by first | exact Or.inl rfl | exact Or.inr rfl) (pcn_nil) rfl) rfl) rfl rfl) (fun _ _ _ _ _ => pmts_one (pmt_chain op_leM op_ltM (pm_ix (pm_var (i := 3) rfl (by first | exact Or.inl rfl | exact Or.inr (Or.inl rfl) | exact Or.inr (Or.inr rfl)) (by decide) (by decide)) (pm_int) (plain_ix fun _ _ _ h => nomatch h)) (pm_var (i := 1) rfl (by first | exact Or.inl rfl | exact Or.inr (Or.inl rfl) | exact Or.inr (Or.inr rfl)) (by decide) (by decide)) (pm_ix (pm_var (i := 3) rfl (by first | exact Or.inl rfl | exact Or.inr (Or.inl rfl) | exact Or.inr (Or.inr rfl)) (by decide) (by decide)) (pm_int) (plain_ix fun _ _ _ h => nomatch h)) (by with_unfolding_all rfl))) (fun _ _ _ _ _ => pm_var (i := 2) rfl (by first | exact Or.inl rfl | exact Or.inr (Or.inl rfl) | exact Or.inr (Or.inr rfl)) (by decide) (by decide)) (fun _ => rfl) (by decide)) (by decide) (by decide) rfl))
    (pmss_nil)
theorem b_is_crowded (T : Txt A.ca tb K mg p pc) (GL : GdL A (cxi dt_is_crowded P w K mg base f cdv Ar outer s H E) (fun cls d _ H' => E cls d H') DT p v l) :
    PMSs A (cxi dt_is_crowded P w K mg base f cdv Ar outer s H E) (fun cls d _ H' => E cls d H') (defBody dt_is_crowded.st) (D_is_crowded v.S) := by
  have G := GL.gd
  have nd : dt_is_crowded.N.Nodup := by decide +kernel
  exact pmss_cons (pms_ret (pm_fuseB (cll_any (Gd.calm G)) (by rfl) T.b_any bb_any (pml_lc (Gd.calm G) nd (pmi_range1 (by rfl) T.b_range (pma_cons (pm_var (i := 0) rfl (by first | exact Or.inl rfl | exact Or.inr (Or.inl rfl) | exact Or.inr (Or.inr rfl)) (by decide) (by decide)) (pma_nil) rfl) rfl) (own := [("stretch", 2)]) (blkOk_by (by kernel_rfl)) (fun _ _ _ _ _ => pct_one nd rfl (by first | exact Or.inl rfl | exact Or.inr rfl) (by first | exact Or.inl rfl | exact Or.inr rfl)) (fun _ _ _ _ _ => pmts_nil) (fun _ _ _ _ _ => pm_cmp op_gtM (pm_callB (cl_lenI (Gd.sp (Gd.blk G _ _ _ _ _) T.s_len rfl)) (by rfl) T.b_len bb_len (pma_cons (pm_callP (Gd.cv (Gd.blk G _ _ _ _ _) F_aboard_at dt_aboard_at rfl) (by rfl) T.f_aboard_at.mg T.f_aboard_at.kp (pma_cons (pm_var (i := 1) rfl (by first | exact Or.inl rfl | exact Or.inr (Or.inl rfl) | exact Or.inr (Or.inr rfl)) (by decide) (by decide)) (pma_cons (pm_var (i := 2) rfl (by first | exact Or.inl rfl | exact Or.inr (Or.inl rfl) | exact Or.inr (Or.inr rfl)) (by decide) (by decide)) (pma_nil) rfl) rfl) (lenA_cons (lenA_cons lenA_nil)) (by decide) rfl rfl) (pma_nil) rfl) (by decide) (by decide) rfl rfl) (pm_glob (by rfl) T.k_MOST_ABOARD (fun _ _ => .int _) (by decide)) (nomark _)) (fun _ => rfl) (by decide)) (by decide) (by decide) rfl))
    (pmss_nil)
theorem b_Ride___init__ (T : Txt A.ca tb K mg p pc) (GL : GdL A (cxi dt_Ride___init__ P w K mg base f cdv Ar outer s H E) (fun cls d _ H' => E cls d H') DT p v l) :
    PMSs A (cxi dt_Ride___init__ P w K mg base f cdv Ar outer s H E) (fun cls d _ H' => E cls d H') (defBody dt_Ride___init__.st) (D_Ride___init__ v.S) := by
  have G := GL.gd
  exact pmss_cons (pms_expr (pm_callP (Gd.cv G F_check_costs dt_check_costs rfl) (by rfl) T.f_check_costs.mg T.f_check_costs.kp (pma_cons (pm_var (i := 1) rfl (by first | exact Or.inl rfl | exact Or.inr (Or.inl rfl) | exact Or.inr (Or.inr rfl)) (by decide) (by decide)) (pma_nil) rfl) (lenA_cons lenA_nil) (by decide) rfl rfl) rfl)
    (pmss_cons (pms_expr (pm_callP (Gd.cv G F_check_riders dt_check_riders rfl) (by rfl) T.f_check_riders.mg T.f_check_riders.kp (pma_cons (pm_var (i := 2) rfl (by first | exact Or.inl rfl | exact Or.inr (Or.inl rfl) | exact Or.inr (Or.inr rfl)) (by decide) (by decide)) (pma_cons (pm_callB (cl_lenI (Gd.sp G T.s_len rfl)) (by rfl) T.b_len bb_len (pma_cons (pm_var (i := 1) rfl (by first | exact Or.inl rfl | exact Or.inr (Or.inl rfl) | exact Or.inr (Or.inr rfl)) (by decide) (by decide)) (pma_nil) rfl) (by decide) (by decide) rfl rfl) (pma_nil) rfl) rfl) (lenA_cons (lenA_cons lenA_nil)) (by decide) rfl rfl) rfl)
    (pmss_cons (pms_if (pmt_truth (pm_callP (Gd.cv G F_is_crowded dt_is_crowded rfl) (by rfl) T.f_is_crowded.mg T.f_is_crowded.kp (pma_cons (pm_callB (cl_lenI (Gd.sp G T.s_len rfl)) (by rfl) T.b_len bb_len (pma_cons (pm_var (i := 1) rfl (by first | exact Or.inl rfl | exact Or.inr (Or.inl rfl) | exact Or.inr (Or.inr rfl)) (by decide) (by decide)) (pma_nil) rfl) (by decide) (by decide) rfl rfl) (pma_cons (pm_var (i := 2) rfl (by first | exact Or.inl rfl | exact Or.inr (Or.inl rfl) | exact Or.inr (Or.inr rfl)) (by decide) (by decide)) (pma_nil) rfl) rfl) (lenA_cons (lenA_cons lenA_nil)) (by decide) rfl rfl) (fun _ => rfl)) (pmss_cons ((T.y_TooMany.elim fun _ tl => pms_rs_limit T.yc_TooMany (Gd.calm G) (Gd.tk G) tl (Gd.room G) (pm_glob (by rfl) T.k_MOST_ABOARD (fun _ _ => .int _) (by decide)) (by rfl) (by decide) rfl rfl))
    (pmss_nil)) (pmss_nil))
    (pmss_cons (pms_fld T.a_costs (pm_var (i := 0) rfl (by first | exact Or.inl rfl | exact Or.inr (Or.inl rfl) | exact Or.inr (Or.inr rfl)) (by decide) (by decide)) (pm_var (i := 1) rfl (by first | exact Or.inl rfl | exact Or.inr (Or.inl rfl) | exact Or.inr (Or.inr rfl)) (by decide) (by decide)) rfl)
    (pmss_cons (pms_fld T.a_riders (pm_var (i := 0) rfl (by first | exact Or.inl rfl | exact Or.inr (Or.inl rfl) | exact Or.inr (Or.inr rfl)) (by decide) (by decide)) (pm_var (i := 2) rfl (by first | exact Or.inl rfl | exact Or.inr (Or.inl rfl) | exact Or.inr (Or.inr rfl)) (by decide) (by decide)) rfl)
    (pmss_cons (pms_fld T.a_told (pm_var (i := 0) rfl (by first | exact Or.inl rfl | exact Or.inr (Or.inl rfl) | exact Or.inr (Or.inr rfl)) (by decide) (by decide)) (pm_tup (pma_cons (pm_var (i := 1) rfl (by first | exact Or.inl rfl | exact Or.inr (Or.inl rfl) | exact Or.inr (Or.inr rfl)) (by decide) (by decide)) (pma_cons (pm_var (i := 2) rfl (by first | exact Or.inl rfl | exact Or.inr (Or.inl rfl) | exact Or.inr (Or.inr rfl)) (by decide) (by decide)) (pma_nil) rfl) rfl)) rfl)
    (pmss_nil))))))
theorem b_Ride___len__ (T : Txt A.ca tb K mg p pc) (GL : GdL A (cxi dt_Ride___len__ P w K mg base f cdv Ar outer s H E) (fun cls d _ H' => E cls d H') DT p v l) :
    PMSs A (cxi dt_Ride___len__ P w K mg base f cdv Ar outer s H E) (fun cls d _ H' => E cls d H') (defBody dt_Ride___len__.st) (D_Ride___len__ v.S) := by
  have G := GL.gd
  exact pmss_cons (pms_ret (pm_callB (cl_lenI (Gd.sp G T.s_len rfl)) (by rfl) T.b_len bb_len (pma_cons (pm_fld T.a_riders (pm_var (i := 0) rfl (by first | exact Or.inl rfl | exact Or.inr (Or.inl rfl) | exact Or.inr (Or.inr rfl)) (by decide) (by decide)) rfl) (pma_nil) rfl) (by decide) (by decide) rfl rfl))
    (pmss_nil)
theorem b_Ride___eq__ (T : Txt A.ca tb K mg p pc) (GL : GdL A (cxi dt_Ride___eq__ P w K mg base f cdv Ar outer s H E) (fun cls d _ H' => E cls d H') DT p v l) :
    PMSs A (cxi dt_Ride___eq__ P w K mg base f cdv Ar outer s H E) (fun cls d _ H' => E cls d H') (defBody dt_Ride___eq__.st) (D_Ride___eq__ v.S) := by
  have G := GL.gd
  exact pmss_cons (pms_ret (pm_and (pm_callB (cl_isi T.kt T.ki) (by rfl) T.b_isinstance bb_isinstance (pma_cons (pm_var (i := 1) rfl (by first | exact Or.inl rfl | exact Or.inr (Or.inl rfl) | exact Or.inr (Or.inr rfl)) (by decide) (by decide)) (pma_cons (pm_cls (by rfl) T.c_Ride.mg T.c_Ride.ca (by decide)) (pma_nil) rfl) rfl) (by decide) (by decide) rfl rfl) (pm_one (pm_cmp (op_eqI (Gd.sp G T.s_eq rfl) T.nf_eq.ok (Gd.un G)) (pm_fld T.a_told (pm_var (i := 0) rfl (by first | exact Or.inl rfl | exact Or.inr (Or.inl rfl) | exact Or.inr (Or.inr rfl)) (by decide) (by decide)) rfl) (pm_fld T.a_told (pm_var (i := 1) rfl (by first | exact Or.inl rfl | exact Or.inr (Or.inl rfl) | exact Or.inr (Or.inr rfl)) (by decide) (by decide)) rfl) (nomark _)))))
    (pmss_nil)
theorem b_Ride___repr__ (T : Txt A.ca tb K mg p pc) (GL : GdL A (cxi dt_Ride___repr__ P w K mg base f cdv Ar outer s H E) (fun cls d _ H' => E cls d H') DT p v l) :
    PMSs A (cxi dt_Ride___repr__ P w K mg base f cdv Ar outer s H E) (fun cls d _ H' => E cls d H') (defBody dt_Ride___repr__.st) (D_Ride___repr__ v.S) := by
  have G := GL.gd
  exact pmss_cons (pms_ret (pm_join (.cons (pm_str) (.cons (pm_fmt (pm_callB (cl_lenI (Gd.sp G T.s_len rfl)) (by rfl) T.b_len bb_len (pma_cons (pm_fld T.a_costs (pm_var (i := 0) rfl (by first | exact Or.inl rfl | exact Or.inr (Or.inl rfl) | exact Or.inr (Or.inr rfl)) (by decide) (by decide)) rfl) (pma_nil) rfl) (by decide) (by decide) rfl rfl)) (.cons (pm_str) (.cons (pm_fmt (pm_callB (cl_lenI (Gd.sp G T.s_len rfl)) (by rfl) T.b_len bb_len (pma_cons (pm_fld T.a_riders (pm_var (i := 0) rfl (by first | exact Or.inl rfl | exact Or.inr (Or.inl rfl) | exact Or.inr (Or.inr rfl)) (by decide) (by decide)) rfl) (pma_nil) rfl) (by decide) (by decide) rfl rfl)) (.cons (pm_str) .nil)))))))
    (pmss_nil)
theorem b__law_jug (T : Txt A.ca tb K mg p pc) (GL : GdL A (cxi dt__law_jug P w K mg base f cdv Ar outer s H E) (fun cls d _ H' => E cls d H') DT p v l) :
    PMSs A (cxi dt__law_jug P w K mg base f cdv Ar outer s H E) (fun cls d _ H' => E cls d H') (defBody dt__law_jug.st) (D__law_jug v.S) := by
  have G := GL.gd
  have nd : dt__law_jug.N.Nodup := by decide +kernel
  have hp := passes_of (X := cxi dt__law_jug P w K mg base f cdv Ar outer s H E) rfl
  exact pmss_cons (pms_asg (pm_if (pmt_cmp op_ltM (pm_var (i := 1) rfl (by first | exact Or.inl rfl | exact Or.inr (Or.inl rfl) | exact Or.inr (Or.inr rfl)) (by decide) (by decide)) (pm_callB (cl_lenI (Gd.sp G T.s_len rfl)) (by rfl) T.b_len bb_len (pma_cons (pm_var (i := 0) rfl (by first | exact Or.inl rfl | exact Or.inr (Or.inl rfl) | exact Or.inr (Or.inr rfl)) (by decide) (by decide)) (pma_nil) rfl) (by decide) (by decide) rfl rfl) (nomark _)) (pm_callT cl_int (by rfl) T.b_int bb_int (pma_cons (pm_ix (pm_var (i := 0) rfl (by first | exact Or.inl rfl | exact Or.inr (Or.inl rfl) | exact Or.inr (Or.inr rfl)) (by decide) (by decide)) (pm_var (i := 1) rfl (by first | exact Or.inl rfl | exact Or.inr (Or.inl rfl) | exact Or.inr (Or.inr rfl)) (by decide) (by decide)) (plain_ix fun _ _ _ h => nomatch h)) (pma_nil) rfl) (by decide) (by decide) rfl rfl) (pm_bin op_addM (pm_bin op_mulM (pm_int) (pm_var (i := 1) rfl (by first | exact Or.inl rfl | exact Or.inr (Or.inl rfl) | exact Or.inr (Or.inr rfl)) (by decide) (by decide))) (pm_int))) (pmg_name nd (i := 2) rfl (by first | exact Or.inl rfl | exact Or.inr rfl) (by first | exact Or.inl rfl | exact Or.inr rfl)) goes_name rfl rfl rfl)
    (pmss_cons (pms_asg (pm_bin op_addM (pm_int) (pm_bin op_mulM (pm_int) (pm_var (i := 1) rfl (by first | exact Or.inl rfl | exact Or.inr (Or.inl rfl) | exact Or.inr (Or.inr rfl)) (by decide) (by decide)))) (pmg_name nd (i := 3) rfl (by first | exact Or.inl rfl | exact Or.inr rfl) (by first | exact Or.inl rfl | exact Or.inr rfl)) goes_name rfl rfl rfl)
    (pmss_cons (pms_for hp (Gd.calm G) (pmi_seq (pm_slice (pm_var (i := 0) rfl (by first | exact Or.inl rfl | exact Or.inr (Or.inl rfl) | exact Or.inr (Or.inr rfl)) (by decide) (by decide)) (pmo_none) (pmo_some (pm_int)))) (pmg_name nd (i := 4) rfl (by first | exact Or.inl rfl | exact Or.inr rfl) (by first | exact Or.inl rfl | exact Or.inr rfl)) (pmss_cons (pms_asg (pm_bin op_modM (pm_callT cl_int (by rfl) T.b_int bb_int (pma_cons (pm_bin op_addM (pm_bin op_mulM (pm_var (i := 3) rfl (by first | exact Or.inl rfl | exact Or.inr (Or.inl rfl) | exact Or.inr (Or.inr rfl)) (by decide) (by decide)) (pm_int)) (pm_bin op_modM (pm_callT cl_int (by rfl) T.b_int bb_int (pma_cons (pm_var (i := 4) rfl (by first | exact Or.inl rfl | exact Or.inr (Or.inl rfl) | exact Or.inr (Or.inr rfl)) (by decide) (by decide)) (pma_nil) rfl) (by decide) (by decide) rfl rfl) (pm_int))) (pma_nil) rfl) (by decide) (by decide) rfl rfl) (pm_int)) (pmg_name nd (i := 3) rfl (by first | exact Or.inl rfl | exact Or.inr rfl) (by first | exact Or.inl rfl | exact Or.inr rfl)) goes_name rfl rfl rfl)
    (pmss_nil)) (fun _ => rfl))
    (pmss_cons (pms_ret (pm_lst (pma_cons (pm_bin op_modM (pm_callT cl_int (by rfl) T.b_int bb_int (pma_cons (pm_bin op_addM (pm_bin op_mulM (pm_var (i := 3) rfl (by first | exact Or.inl rfl | exact Or.inr (Or.inl rfl) | exact Or.inr (Or.inr rfl)) (by decide) (by decide)) (pm_int)) (pm_bin op_modM (pm_var (i := 2) rfl (by first | exact Or.inl rfl | exact Or.inr (Or.inl rfl) | exact Or.inr (Or.inr rfl)) (by decide) (by decide)) (pm_int))) (pma_nil) rfl) (by decide) (by decide) rfl rfl) (pm_int)) (pma_cons (pm_if (L2.PW.pt (pmw_or (pmt_cmp op_ltM (pm_var (i := 2) rfl (by first | exact Or.inl rfl | exact Or.inr (Or.inl rfl) | exact Or.inr (Or.inr rfl)) (by decide) (by decide)) (pm_int) (nomark _)) (pmw_or1 (pmt_cmp op_geM (pm_var (i := 2) rfl (by first | exact Or.inl rfl | exact Or.inr (Or.inl rfl) | exact Or.inr (Or.inr rfl)) (by decide) (by decide)) (pm_bin op_powM (pm_int) (pm_int)) (nomark _))))) (pm_callB cl_abs (by rfl) T.b_abs bb_abs (pma_cons (pm_var (i := 2) rfl (by first | exact Or.inl rfl | exact Or.inr (Or.inl rfl) | exact Or.inr (Or.inr rfl)) (by decide) (by decide)) (pma_nil) rfl) (by decide) (by decide) rfl rfl) (pm_int)) (pma_cons (pm_int) (pma_nil) rfl) rfl) rfl)))
    (pmss_nil))))
theorem b__law_drop (T : Txt A.ca tb K mg p pc) (GL : GdL A (cxi dt__law_drop P w K mg base f cdv Ar outer s H E) (fun cls d _ H' => E cls d H') DT p v l) :
    PMSs A (cxi dt__law_drop P w K mg base f cdv Ar outer s H E) (fun cls d _ H' => E cls d H') (defBody dt__law_drop.st) (D__law_drop v.S) := by
  have G := GL.gd
  have nd : dt__law_drop.N.Nodup := by decide +kernel
  exact pmss_cons (pms_asg (pm_bin op_addM (pm_ix (pm_var (i := 0) rfl (by first | exact Or.inl rfl | exact Or.inr (Or.inl rfl) | exact Or.inr (Or.inr rfl)) (by decide) (by decide)) (pm_int) (plain_ix fun _ _ _ h => nomatch h)) (pm_int)) (pmg_sub (pm_var (i := 0) rfl (by first | exact Or.inl rfl | exact Or.inr (Or.inl rfl) | exact Or.inr (Or.inr rfl)) (by decide) (by decide)) (pm_int) (fun _ => rfl)) goes_sub rfl rfl rfl)
    (pmss_cons (pms_if (pmt_cmp op_gtM (pm_ix (pm_var (i := 0) rfl (by first | exact Or.inl rfl | exact Or.inr (Or.inl rfl) | exact Or.inr (Or.inr rfl)) (by decide) (by decide)) (pm_int) (plain_ix fun _ _ _ h => nomatch h)) (pm_int) (nomark _)) (pmss_cons (pms_asg (pm_callB cl_divmod (by rfl) T.b_divmod bb_divmod (pma_cons (pm_callT cl_int (by rfl) T.b_int bb_int (pma_cons (pm_ix (pm_var (i := 0) rfl (by first | exact Or.inl rfl | exact Or.inr (Or.inl rfl) | exact Or.inr (Or.inr rfl)) (by decide) (by decide)) (pm_int) (plain_ix fun _ _ _ h => nomatch h)) (pma_nil) rfl) (by decide) (by decide) rfl rfl) (pma_cons (pm_var (i := 1) rfl (by first | exact Or.inl rfl | exact Or.inr (Or.inl rfl) | exact Or.inr (Or.inr rfl)) (by decide) (by decide)) (pma_nil) rfl) rfl) (by decide) (by decide) rfl rfl) (pmg_tup (Gd.calm G) (pmgs_cons (pmg_sub (pm_var (i := 0) rfl (by first | exact Or.inl rfl | exact Or.inr (Or.inl rfl) | exact Or.inr (Or.inr rfl)) (by decide) (by decide)) (pm_int) (fun _ => rfl)) (pmgs_cons (pmg_name nd (i := 2) rfl (by first | exact Or.inl rfl | exact Or.inr rfl) (by first | exact Or.inl rfl | exact Or.inr rfl)) (pmgs_nil) rfl) rfl) rfl rfl) (goes_tup (goes_cons goes_sub (goes_cons goes_name (goes_nil)))) rfl rfl rfl)
    (pmss_cons (pms_ret (pm_var (i := 2) rfl (by first | exact Or.inl rfl | exact Or.inr (Or.inl rfl) | exact Or.inr (Or.inr rfl)) (by decide) (by decide)))
    (pmss_nil))) (pmss_nil))
    (pmss_cons (pms_asg (pm_bin op_modM (pm_callT cl_int (by rfl) T.b_int bb_int (pma_cons (pm_bin op_addM (pm_bin op_addM (pm_bin op_mulM (pm_ix (pm_var (i := 0) rfl (by first | exact Or.inl rfl | exact Or.inr (Or.inl rfl) | exact Or.inr (Or.inr rfl)) (by decide) (by decide)) (pm_int) (plain_ix fun _ _ _ h => nomatch h)) (pm_int)) (pm_bin op_mulM (pm_ix (pm_var (i := 0) rfl (by first | exact Or.inl rfl | exact Or.inr (Or.inl rfl) | exact Or.inr (Or.inr rfl)) (by decide) (by decide)) (pm_int) (plain_ix fun _ _ _ h => nomatch h)) (pm_int))) (pm_bin op_mulM (pm_bin op_divM (pm_ix (pm_var (i := 0) rfl (by first | exact Or.inl rfl | exact Or.inr (Or.inl rfl) | exact Or.inr (Or.inr rfl)) (by decide) (by decide)) (pm_int) (plain_ix fun _ _ _ h => nomatch h)) (pm_int)) (pm_int))) (pma_nil) rfl) (by decide) (by decide) rfl rfl) (pm_int)) (pmg_sub (pm_var (i := 0) rfl (by first | exact Or.inl rfl | exact Or.inr (Or.inl rfl) | exact Or.inr (Or.inr rfl)) (by decide) (by decide)) (pm_int) (fun _ => rfl)) goes_sub rfl rfl rfl)
    (pmss_cons (pms_ret (pm_bin op_modM (pm_callT cl_int (by rfl) T.b_int bb_int (pma_cons (pm_bin op_divM (pm_ix (pm_var (i := 0) rfl (by first | exact Or.inl rfl | exact Or.inr (Or.inl rfl) | exact Or.inr (Or.inr rfl)) (by decide) (by decide)) (pm_int) (plain_ix fun _ _ _ h => nomatch h)) (pm_int)) (pma_nil) rfl) (by decide) (by decide) rfl rfl) (pm_var (i := 1) rfl (by first | exact Or.inl rfl | exact Or.inr (Or.inl rfl) | exact Or.inr (Or.inr rfl)) (by decide) (by decide))))
    (pmss_nil))))
theorem b__law_one (T : Txt A.ca tb K mg p pc) (GL : GdL A (cxi dt__law_one P w K mg base f cdv Ar outer s H E) (fun cls d _ H' => E cls d H') DT p v l) :
    PMSs A (cxi dt__law_one P w K mg base f cdv Ar outer s H E) (fun cls d _ H' => E cls d H') (defBody dt__law_one.st) (D__law_one v.S) := by
  have G := GL.gd
  exact pmss_cons (pms_ret (pm_ix (pm_var (i := 1) rfl (by first | exact Or.inl rfl | exact Or.inr (Or.inl rfl) | exact Or.inr (Or.inr rfl)) (by decide) (by decide)) (pm_callP (Gd.cv G F__law_drop dt__law_drop rfl) (by rfl) T.f__law_drop.mg T.f__law_drop.kp (pma_cons (pm_var (i := 0) rfl (by first | exact Or.inl rfl | exact Or.inr (Or.inl rfl) | exact Or.inr (Or.inr rfl)) (by decide) (by decide)) (pma_cons (pm_callB (cl_lenI (Gd.sp G T.s_len rfl)) (by rfl) T.b_len bb_len (pma_cons (pm_var (i := 1) rfl (by first | exact Or.inl rfl | exact Or.inr (Or.inl rfl) | exact Or.inr (Or.inr rfl)) (by decide) (by decide)) (pma_nil) rfl) (by decide) (by decide) rfl rfl) (pma_nil) rfl) rfl) (lenA_cons (lenA_cons lenA_nil)) (by decide) rfl rfl) (plain_ix fun _ _ _ h => nomatch h)))
    (pmss_nil)
theorem b__law_outcome (T : Txt A.ca tb K mg p pc) (GL : GdL A (cxi dt__law_outcome P w K mg base f cdv Ar outer s H E) (fun cls d _ H' => E cls d H') DT p v l) :
    PMSs A (cxi dt__law_outcome P w K mg base f cdv Ar outer s H E) (fun cls d _ H' => E cls d H') (defBody dt__law_outcome.st) (D__law_outcome v) := by
  have G := GL.gd
  have nd : dt__law_outcome.N.Nodup := by decide +kernel
  exact pmss_cons (pms_tryN rfl rfl (Gd.tk G) (fun V pn xe t1 o1 => (by have G1 := Gd.tr G pn xe t1; exact pmss_cons (pms_asg (pm_callV0 (i := 0) G1 rfl (by first | exact Or.inl rfl | exact Or.inr (Or.inl rfl) | exact Or.inr (Or.inr rfl)) (by decide) (by decide)) (pmg_name nd (i := 1) rfl (by first | exact Or.inl rfl | exact Or.inr rfl) (by first | exact Or.inl rfl | exact Or.inr rfl)) goes_name rfl rfl rfl)     (pmss_nil))) (ClN.named (i := 2) ⟨by rfl, by decide, .inl T.g_InvalidCosts⟩ T.xm_InvalidCosts nd rfl rfl (fun _ _ _ _ _ hz hf => by obtain ⟨_, tl⟩ := T.y_InvalidCosts; exact suite_ret_index T.yc_InvalidCosts tl T.e_InvalidCosts hz hf rfl (by first | exact Or.inl rfl | exact Or.inr (Or.inl rfl) | exact Or.inr (Or.inr rfl)) (by decide) (by decide) (pe_glob (v := .ref (pc C_InputError)) (by rfl) T.g_InputError rfl (by decide)) (pe_bltn (v := .ty "ValueError") (by rfl) T.b_ValueError bb_ValueError rfl (by decide) (by decide)) (fun _ z => z) (fun _ z => z) T.ki_InvalidCosts_InputError T.ki_InvalidCosts_ValueError T.b_isinstance (by rfl)) (ClN.named (i := 2) ⟨by rfl, by decide, .inl T.g_InvalidRiders⟩ T.xm_InvalidRiders nd rfl rfl (fun _ _ _ _ _ hz hf => by obtain ⟨_, tl⟩ := T.y_InvalidRiders; exact suite_ret_index T.yc_InvalidRiders tl T.e_InvalidRiders hz hf rfl (by first | exact Or.inl rfl | exact Or.inr (Or.inl rfl) | exact Or.inr (Or.inr rfl)) (by decide) (by decide) (pe_glob (v := .ref (pc C_InputError)) (by rfl) T.g_InputError rfl (by decide)) (pe_bltn (v := .ty "ValueError") (by rfl) T.b_ValueError bb_ValueError rfl (by decide) (by decide)) (fun _ z => z) (fun _ z => z) T.ki_InvalidRiders_InputError T.ki_InvalidRiders_ValueError T.b_isinstance (by rfl)) (ClN.named (i := 2) ⟨by rfl, by decide, .inl T.g_TooMany⟩ T.xm_TooMany nd rfl rfl (fun _ _ _ _ _ hz hf => by obtain ⟨_, tl⟩ := T.y_TooMany; exact suite_ret_limit T.yc_TooMany tl T.e_TooMany hz hf rfl (by first | exact Or.inl rfl | exact Or.inr (Or.inl rfl) | exact Or.inr (Or.inr rfl)) (by decide) (by decide) (pe_glob (v := .ref (pc C_SizeError)) (by rfl) T.g_SizeError rfl (by decide)) (pe_bltn (v := .ty "ArithmeticError") (by rfl) T.b_ArithmeticError bb_ArithmeticError rfl (by decide) (by decide)) (fun _ z => z) (fun _ z => z) T.ki_TooMany_SizeError T.ki_TooMany_ArithmeticError T.b_isinstance (by rfl)) ClN.nil))))
    (pmss_cons (pms_ret (pm_lst (pma_cons (pm_str) (pma_cons (pm_var (i := 1) rfl (by first | exact Or.inl rfl | exact Or.inr (Or.inl rfl) | exact Or.inr (Or.inr rfl)) (by decide) (by decide)) (pma_nil) rfl) rfl)))
    (pmss_nil))
theorem b__law_bad_prices (T : Txt A.ca tb K mg p pc) (GL : GdL A (cxi dt__law_bad_prices P w K mg base f cdv Ar outer s H E) (fun cls d _ H' => E cls d H') DT p v l) :
    PMSs A (cxi dt__law_bad_prices P w K mg base f cdv Ar outer s H E) (fun cls d _ H' => E cls d H') (defBody dt__law_bad_prices.st) (D__law_bad_prices v.S) := by
  have G := GL.gd
  have nd : dt__law_bad_prices.N.Nodup := by decide +kernel
  exact pmss_cons (pms_par (Gd.calm G) nd (i := 1) (j := 2) rfl rfl (by decide) rfl rfl (pma_cons (pm_callP (Gd.cv G F__law_one dt__law_one rfl) (by rfl) T.f__law_one.mg T.f__law_one.kp (pma_cons (pm_var (i := 0) rfl (by first | exact Or.inl rfl | exact Or.inr (Or.inl rfl) | exact Or.inr (Or.inr rfl)) (by decide) (by decide)) (pma_cons (pm_lst (pma_cons (pm_non) (pma_cons (pm_un un_negM (pm_int)) (pma_cons (pm_bl) (pma_cons (pm_str) (pma_cons (pm_tup (pma_cons (pm_int) (pma_nil) rfl)) (pma_cons (pm_bin op_addM (pm_bin op_powM (pm_int) (pm_int)) (pm_int)) (pma_cons (pm_lst (pma_nil)) (pma_cons (pm_bin op_powM (pm_int) (pm_int)) (pma_nil) rfl) rfl) rfl) rfl) rfl) rfl) rfl) rfl)) (pma_nil) rfl) rfl) (lenA_cons (lenA_cons lenA_nil)) (by decide) rfl rfl) (pma_cons (pm_callP (Gd.cv G F__law_drop dt__law_drop rfl) (by rfl) T.f__law_drop.mg T.f__law_drop.kp (pma_cons (pm_var (i := 0) rfl (by first | exact Or.inl rfl | exact Or.inr (Or.inl rfl) | exact Or.inr (Or.inr rfl)) (by decide) (by decide)) (pma_cons (pm_int) (pma_nil) rfl) rfl) (lenA_cons (lenA_cons lenA_nil)) (by decide) rfl rfl) (pma_nil) rfl) rfl) rfl rfl)
    (pmss_cons (pms_asg (pm_lst (pma_cons (pm_tup (pma_cons (pm_non) (pma_cons (pm_non) (pma_nil) rfl) rfl)) (pma_cons (pm_tup (pma_cons (pm_lst (pma_cons (pm_int) (pma_cons (pm_int) (pma_nil) rfl) rfl)) (pma_cons (pm_non) (pma_nil) rfl) rfl)) (pma_cons (pm_tup (pma_cons (pm_tup (pma_nil)) (pma_cons (pm_non) (pma_nil) rfl) rfl)) (pma_cons (pm_tup (pma_cons (pm_bin op_mulM (pm_tup (pma_cons (pm_int) (pma_nil) rfl)) (pm_int)) (pma_cons (pm_non) (pma_nil) rfl) rfl)) (pma_cons (pm_tup (pma_cons (pm_str) (pma_cons (pm_non) (pma_nil) rfl) rfl)) (pma_nil) rfl) rfl) rfl) rfl) rfl)) (pmg_name nd (i := 3) rfl (by first | exact Or.inl rfl | exact Or.inr rfl) (by first | exact Or.inl rfl | exact Or.inr rfl)) goes_name rfl rfl rfl)
    (pmss_cons (pms_expr (pm_app (pm_var (i := 3) rfl (by first | exact Or.inl rfl | exact Or.inr (Or.inl rfl) | exact Or.inr (Or.inr rfl)) (by decide) (by decide)) (pm_tup (pma_cons (pm_bin op_addM (pm_slice (pm_tup (pma_cons (pm_int) (pma_cons (pm_int) (pma_cons (pm_int) (pma_nil) rfl) rfl) rfl)) (pmo_none) (pmo_some (pm_var (i := 2) rfl (by first | exact Or.inl rfl | exact Or.inr (Or.inl rfl) | exact Or.inr (Or.inr rfl)) (by decide) (by decide)))) (pm_tup (pma_cons (pm_var (i := 1) rfl (by first | exact Or.inl rfl | exact Or.inr (Or.inl rfl) | exact Or.inr (Or.inr rfl)) (by decide) (by decide)) (pma_cons (pm_non) (pma_nil) rfl) rfl))) (pma_cons (pm_var (i := 2) rfl (by first | exact Or.inl rfl | exact Or.inr (Or.inl rfl) | exact Or.inr (Or.inr rfl)) (by decide) (by decide)) (pma_nil) rfl) rfl)) rfl rfl rfl rfl) rfl)
    (pmss_cons (pms_ret (pm_callP (Gd.cv G F__law_one dt__law_one rfl) (by rfl) T.f__law_one.mg T.f__law_one.kp (pma_cons (pm_var (i := 0) rfl (by first | exact Or.inl rfl | exact Or.inr (Or.inl rfl) | exact Or.inr (Or.inr rfl)) (by decide) (by decide)) (pma_cons (pm_bin op_addM (pm_var (i := 3) rfl (by first | exact Or.inl rfl | exact Or.inr (Or.inl rfl) | exact Or.inr (Or.inr rfl)) (by decide) (by decide)) (pm_lst (pma_cons (pm_tup (pma_cons (pm_dct) (pma_cons (pm_non) (pma_nil) rfl) rfl)) (pma_cons (pm_tup (pma_cons (pm_int) (pma_cons (pm_non) (pma_nil) rfl) rfl)) (pma_cons (pm_tup (pma_cons (pm_tup (pma_cons (pm_var (i := 1) rfl (by first | exact Or.inl rfl | exact Or.inr (Or.inl rfl) | exact Or.inr (Or.inr rfl)) (by decide) (by decide)) (pma_nil) rfl)) (pma_cons (pm_int) (pma_nil) rfl) rfl)) (pma_nil) rfl) rfl) rfl))) (pma_nil) rfl) rfl) (lenA_cons (lenA_cons lenA_nil)) (by decide) rfl rfl))
    (pmss_nil))))
theorem b__law_bad_folk (T : Txt A.ca tb K mg p pc) (GL : GdL A (cxi dt__law_bad_folk P w K mg base f cdv Ar outer s H E) (fun cls d _ H' => E cls d H') DT p v l) :
    PMSs A (cxi dt__law_bad_folk P w K mg base f cdv Ar outer s H E) (fun cls d _ H' => E cls d H') (defBody dt__law_bad_folk.st) (D__law_bad_folk v.S) := by
  have G := GL.gd
  have nd : dt__law_bad_folk.N.Nodup := by decide +kernel
  exact pmss_cons (pms_par (Gd.calm G) nd (i := 1) (j := 2) rfl rfl (by decide) rfl rfl (pma_cons (pm_tup (pma_cons (pm_int) (pma_cons (pm_int) (pma_cons (pm_int) (pma_nil) rfl) rfl) rfl)) (pma_cons (pm_callP (Gd.cv G F__law_drop dt__law_drop rfl) (by rfl) T.f__law_drop.mg T.f__law_drop.kp (pma_cons (pm_var (i := 0) rfl (by first | exact Or.inl rfl | exact Or.inr (Or.inl rfl) | exact Or.inr (Or.inr rfl)) (by decide) (by decide)) (pma_cons (pm_int) (pma_nil) rfl) rfl) (lenA_cons (lenA_cons lenA_nil)) (by decide) rfl rfl) (pma_nil) rfl) rfl) rfl rfl)
    (pmss_cons (pms_asg (pm_lst (pma_cons (pm_non) (pma_cons (pm_tup (pma_cons (pm_int) (pma_cons (pm_int) (pma_nil) rfl) rfl)) (pma_cons (pm_lst (pma_cons (pm_int) (pma_cons (pm_int) (pma_cons (pm_int) (pma_nil) rfl) rfl) rfl)) (pma_cons (pm_tup (pma_cons (pm_int) (pma_cons (pm_int) (pma_cons (pm_int) (pma_nil) rfl) rfl) rfl)) (pma_cons (pm_tup (pma_cons (pm_int) (pma_cons (pm_int) (pma_cons (pm_int) (pma_nil) rfl) rfl) rfl)) (pma_cons (pm_tup (pma_cons (pm_un un_negM (pm_int)) (pma_cons (pm_int) (pma_cons (pm_int) (pma_nil) rfl) rfl) rfl)) (pma_cons (pm_tup (pma_cons (pm_int) (pma_cons (pm_int) (pma_cons (pm_int) (pma_nil) rfl) rfl) rfl)) (pma_cons (pm_tup (pma_cons (pm_int) (pma_cons (pm_int) (pma_cons (pm_un un_negM (pm_int)) (pma_nil) rfl) rfl) rfl)) (pma_cons (pm_tup (pma_cons (pm_bl) (pma_cons (pm_int) (pma_cons (pm_int) (pma_nil) rfl) rfl) rfl)) (pma_nil) rfl) rfl) rfl) rfl) rfl) rfl) rfl) rfl) rfl)) (pmg_name nd (i := 3) rfl (by first | exact Or.inl rfl | exact Or.inr rfl) (by first | exact Or.inl rfl | exact Or.inr rfl)) goes_name rfl rfl rfl)
    (pmss_cons (pms_expr (pm_app (pm_var (i := 3) rfl (by first | exact Or.inl rfl | exact Or.inr (Or.inl rfl) | exact Or.inr (Or.inr rfl)) (by decide) (by decide)) (pm_tup (pma_cons (pm_int) (pma_cons (pm_bl) (pma_cons (pm_int) (pma_nil) rfl) rfl) rfl)) rfl rfl rfl rfl) rfl)
    (pmss_cons (pms_asg (pm_callP (Gd.cv G F__law_one dt__law_one rfl) (by rfl) T.f__law_one.mg T.f__law_one.kp (pma_cons (pm_var (i := 0) rfl (by first | exact Or.inl rfl | exact Or.inr (Or.inl rfl) | exact Or.inr (Or.inr rfl)) (by decide) (by decide)) (pma_cons (pm_bin op_addM (pm_var (i := 3) rfl (by first | exact Or.inl rfl | exact Or.inr (Or.inl rfl) | exact Or.inr (Or.inr rfl)) (by decide) (by decide)) (pm_lst (pma_cons (pm_tup (pma_cons (pm_int) (pma_cons (pm_int) (pma_cons (pm_int) (pma_nil) rfl) rfl) rfl)) (pma_cons (pm_tup (pma_cons (pm_int) (pma_cons (pm_int) (pma_cons (pm_int) (pma_nil) rfl) rfl) rfl)) (pma_cons (pm_tup (pma_cons (pm_str) (pma_cons (pm_int) (pma_cons (pm_int) (pma_nil) rfl) rfl) rfl)) (pma_cons (pm_tup (pma_cons (pm_int) (pma_cons (pm_int) (pma_cons (pm_non) (pma_nil) rfl) rfl) rfl)) (pma_cons (pm_tup (pma_cons (pm_int) (pma_cons (pm_int) (pma_cons (pm_int) (pma_cons (pm_int) (pma_nil) rfl) rfl) rfl) rfl)) (pma_cons (pm_dct) (pma_nil) rfl) rfl) rfl) rfl) rfl) rfl))) (pma_nil) rfl) rfl) (lenA_cons (lenA_cons lenA_nil)) (by decide) rfl rfl) (pmg_name nd (i := 3) rfl (by first | exact Or.inl rfl | exact Or.inr rfl) (by first | exact Or.inl rfl | exact Or.inr rfl)) goes_name rfl rfl rfl)
    (pmss_cons (pms_asg (pm_lst (pma_cons (pm_tup (pma_cons (pm_non) (pma_cons (pm_non) (pma_nil) rfl) rfl)) (pma_cons (pm_tup (pma_cons (pm_lst (pma_cons (pm_var (i := 1) rfl (by first | exact Or.inl rfl | exact Or.inr (Or.inl rfl) | exact Or.inr (Or.inr rfl)) (by decide) (by decide)) (pma_nil) rfl)) (pma_cons (pm_non) (pma_nil) rfl) rfl)) (pma_cons (pm_tup (pma_cons (pm_tup (pma_nil)) (pma_cons (pm_non) (pma_nil) rfl) rfl)) (pma_cons (pm_tup (pma_cons (pm_bin op_mulM (pm_tup (pma_cons (pm_var (i := 1) rfl (by first | exact Or.inl rfl | exact Or.inr (Or.inl rfl) | exact Or.inr (Or.inr rfl)) (by decide) (by decide)) (pma_nil) rfl)) (pm_int)) (pma_cons (pm_non) (pma_nil) rfl) rfl)) (pma_cons (pm_tup (pma_cons (pm_var (i := 1) rfl (by first | exact Or.inl rfl | exact Or.inr (Or.inl rfl) | exact Or.inr (Or.inr rfl)) (by decide) (by decide)) (pma_cons (pm_int) (pma_nil) rfl) rfl)) (pma_cons (pm_tup (pma_cons (pm_bin op_addM (pm_bin op_mulM (pm_tup (pma_cons (pm_var (i := 1) rfl (by first | exact Or.inl rfl | exact Or.inr (Or.inl rfl) | exact Or.inr (Or.inr rfl)) (by decide) (by decide)) (pma_nil) rfl)) (pm_var (i := 2) rfl (by first | exact Or.inl rfl | exact Or.inr (Or.inl rfl) | exact Or.inr (Or.inr rfl)) (by decide) (by decide))) (pm_tup (pma_cons (pm_var (i := 3) rfl (by first | exact Or.inl rfl | exact Or.inr (Or.inl rfl) | exact Or.inr (Or.inr rfl)) (by decide) (by decide)) (pma_cons (pm_non) (pma_nil) rfl) rfl))) (pma_cons (pm_var (i := 2) rfl (by first | exact Or.inl rfl | exact Or.inr (Or.inl rfl) | exact Or.inr (Or.inr rfl)) (by decide) (by decide)) (pma_nil) rfl) rfl)) (pma_nil) rfl) rfl) rfl) rfl) rfl) rfl)) (pmg_name nd (i := 4) rfl (by first | exact Or.inl rfl | exact Or.inr rfl) (by first | exact Or.inl rfl | exact Or.inr rfl)) goes_name rfl rfl rfl)
    (pmss_cons (pms_ret (pm_callP (Gd.cv G F__law_one dt__law_one rfl) (by rfl) T.f__law_one.mg T.f__law_one.kp (pma_cons (pm_var (i := 0) rfl (by first | exact Or.inl rfl | exact Or.inr (Or.inl rfl) | exact Or.inr (Or.inr rfl)) (by decide) (by decide)) (pma_cons (pm_bin op_addM (pm_var (i := 4) rfl (by first | exact Or.inl rfl | exact Or.inr (Or.inl rfl) | exact Or.inr (Or.inr rfl)) (by decide) (by decide)) (pm_lst (pma_cons (pm_tup (pma_cons (pm_str) (pma_cons (pm_non) (pma_nil) rfl) rfl)) (pma_cons (pm_tup (pma_cons (pm_tup (pma_cons (pm_var (i := 3) rfl (by first | exact Or.inl rfl | exact Or.inr (Or.inl rfl) | exact Or.inr (Or.inr rfl)) (by decide) (by decide)) (pma_nil) rfl)) (pma_cons (pm_int) (pma_nil) rfl) rfl)) (pma_nil) rfl) rfl))) (pma_nil) rfl) rfl) (lenA_cons (lenA_cons lenA_nil)) (by decide) rfl rfl))
    (pmss_nil))))))
theorem b__law_right (T : Txt A.ca tb K mg p pc) (htb : A.tb = tb) (hcv : (p.fd F__law_right).code = cdv) (GL : GdL A (cxi dt__law_right P w K mg base f cdv Ar outer s H E) (fun cls d _ H' => E cls d H') DT p v l) :
    PMSs A (cxi dt__law_right P w K mg base f cdv Ar outer s H E) (fun cls d _ H' => E cls d H') (defBody dt__law_right.st) (D__law_right v) := by
  have G := GL.gd
  have nd : dt__law_right.N.Nodup := by decide +kernel
  exact pmss_cons (pms_asg (pm_tup (pma_cons (pm_tup (pma_cons (pm_int) (pma_cons (pm_int) (pma_cons (pm_int) (pma_nil) rfl) rfl) rfl)) (pma_cons (pm_tup (pma_cons (pm_tup (pma_cons (pm_int) (pma_cons (pm_int) (pma_cons (pm_int) (pma_nil) rfl) rfl) rfl)) (pma_cons (pm_tup (pma_cons (pm_int) (pma_cons (pm_int) (pma_cons (pm_int) (pma_nil) rfl) rfl) rfl)) (pma_nil) rfl) rfl)) (pma_nil) rfl) rfl)) (pmg_tup (Gd.calm G) (pmgs_cons (pmg_name nd (i := 1) rfl (by first | exact Or.inl rfl | exact Or.inr rfl) (by first | exact Or.inl rfl | exact Or.inr rfl)) (pmgs_cons (pmg_name nd (i := 2) rfl (by first | exact Or.inl rfl | exact Or.inr rfl) (by first | exact Or.inl rfl | exact Or.inr rfl)) (pmgs_nil) rfl) rfl) rfl rfl) (goes_tup (goes_cons goes_name (goes_cons goes_name (goes_nil)))) rfl rfl rfl)
    (pmss_cons (pms_asg (pm_tup (pma_cons (pm_callP (Gd.cv G F__law_bad_prices dt__law_bad_prices rfl) (by rfl) T.f__law_bad_prices.mg T.f__law_bad_prices.kp (pma_cons (pm_var (i := 0) rfl (by first | exact Or.inl rfl | exact Or.inr (Or.inl rfl) | exact Or.inr (Or.inr rfl)) (by decide) (by decide)) (pma_nil) rfl) (lenA_cons lenA_nil) (by decide) rfl rfl) (pma_cons (pm_callP (Gd.cv G F__law_bad_folk dt__law_bad_folk rfl) (by rfl) T.f__law_bad_folk.mg T.f__law_bad_folk.kp (pma_cons (pm_var (i := 0) rfl (by first | exact Or.inl rfl | exact Or.inr (Or.inl rfl) | exact Or.inr (Or.inr rfl)) (by decide) (by decide)) (pma_nil) rfl) (lenA_cons lenA_nil) (by decide) rfl rfl) (pma_nil) rfl) rfl)) (pmg_tup (Gd.calm G) (pmgs_cons (pmg_tup (Gd.calm G) (pmgs_cons (pmg_name nd (i := 3) rfl (by first | exact Or.inl rfl | exact Or.inr rfl) (by first | exact Or.inl rfl | exact Or.inr rfl)) (pmgs_cons (pmg_name nd (i := 4) rfl (by first | exact Or.inl rfl | exact Or.inr rfl) (by first | exact Or.inl rfl | exact Or.inr rfl)) (pmgs_nil) rfl) rfl) rfl rfl) (pmgs_cons (pmg_tup (Gd.calm G) (pmgs_cons (pmg_name nd (i := 5) rfl (by first | exact Or.inl rfl | exact Or.inr rfl) (by first | exact Or.inl rfl | exact Or.inr rfl)) (pmgs_cons (pmg_name nd (i := 6) rfl (by first | exact Or.inl rfl | exact Or.inr rfl) (by first | exact Or.inl rfl | exact Or.inr rfl)) (pmgs_nil) rfl) rfl) rfl rfl) (pmgs_nil) rfl) rfl) rfl rfl) (goes_tup (goes_cons (goes_tup (goes_cons goes_name (goes_cons goes_name (goes_nil)))) (goes_cons (goes_tup (goes_cons goes_name (goes_cons goes_name (goes_nil)))) (goes_nil)))) rfl rfl rfl)
    (pmss_cons (pms_asg (pm_lst (pma_cons (pm_bin op_mulM (pm_tup (pma_cons (pm_tup (pma_cons (pm_int) (pma_cons (pm_int) (pma_cons (pm_int) (pma_nil) rfl) rfl) rfl)) (pma_nil) rfl)) (pm_int)) (pma_cons (pm_bin op_addM (pm_bin op_mulM (pm_tup (pma_cons (pm_tup (pma_cons (pm_int) (pma_cons (pm_int) (pma_cons (pm_int) (pma_nil) rfl) rfl) rfl)) (pma_nil) rfl)) (pm_int)) (pm_bin op_mulM (pm_tup (pma_cons (pm_tup (pma_cons (pm_int) (pma_cons (pm_int) (pma_cons (pm_int) (pma_nil) rfl) rfl) rfl)) (pma_nil) rfl)) (pm_int))) (pma_cons (pm_bin op_mulM (pm_tup (pma_cons (pm_tup (pma_cons (pm_int) (pma_cons (pm_int) (pma_cons (pm_int) (pma_nil) rfl) rfl) rfl)) (pma_nil) rfl)) (pm_int)) (pma_nil) rfl) rfl) rfl)) (pmg_name nd (i := 7) rfl (by first | exact Or.inl rfl | exact Or.inr rfl) (by first | exact Or.inl rfl | exact Or.inr rfl)) goes_name rfl rfl rfl)
    (pmss_cons (pms_asg (pm_callP (Gd.cv G F__law_one dt__law_one rfl) (by rfl) T.f__law_one.mg T.f__law_one.kp (pma_cons (pm_var (i := 0) rfl (by first | exact Or.inl rfl | exact Or.inr (Or.inl rfl) | exact Or.inr (Or.inr rfl)) (by decide) (by decide)) (pma_cons (pm_var (i := 7) rfl (by first | exact Or.inl rfl | exact Or.inr (Or.inl rfl) | exact Or.inr (Or.inr rfl)) (by decide) (by decide)) (pma_nil) rfl) rfl) (lenA_cons (lenA_cons lenA_nil)) (by decide) rfl rfl) (pmg_name nd (i := 8) rfl (by first | exact Or.inl rfl | exact Or.inr rfl) (by first | exact Or.inl rfl | exact Or.inr rfl)) goes_name rfl rfl rfl)
    (pmss_cons (pms_asg (pm_lst (pma_cons (pm_callL (j := F__law_outcome) (d := dt__law_outcome) GL rfl rfl (by rfl) T.f__law_outcome.mg T.f__law_outcome.kp ⟨lamP_by (ps := []) (by rfl), by rfl, rfl, fun _ _ _ _ _ us hl => (match us, hl with | [], _ => rfl), hcv.symm.trans T.lc__law_right, GL.tab _ T.lm__law_right, (by rw [htb]; exact T.lt__law_right), (by rw [htb]; exact T.lu__law_right), fun _ => rfl⟩ (pla_last (bs := [false, false, false, true, false, true, false, false, false, false, false, false]) ⟨lamP_by (ps := []) (by rfl), by rfl, rfl, fun _ _ _ _ _ us hl => (match us, hl with | [], _ => rfl), hcv.symm.trans T.lc__law_right, GL.tab _ T.lm__law_right, (by rw [htb]; exact T.lt__law_right), (by rw [htb]; exact T.lu__law_right), fun _ => rfl⟩) rfl (by decide) (fun A2 base2 f2 c2 S2 ar2 lb2 Ar2 outer2 s2 H2 E2 hca hbs hS har hfa G2 => by subst hS; subst har; have T2 := hca.symm ▸ T; exact pm_callP (Gd.mkp G2 F_Ride___init__ dt_Ride___init__ rfl (by rfl) T2.mk_Ride T2.c_Ride.ca) (by rfl) T2.c_Ride.mg T2.c_Ride.kp (pma_cons (pm_var (i := 3) rfl (by first | exact Or.inl rfl | exact Or.inr (Or.inl rfl) | exact Or.inr (Or.inr rfl)) (by decide) (by decide)) (pma_cons (pm_var (i := 5) rfl (by first | exact Or.inl rfl | exact Or.inr (Or.inl rfl) | exact Or.inr (Or.inr rfl)) (by decide) (by decide)) (pma_nil) rfl) rfl) (lenA_cons (lenA_cons lenA_nil)) (by decide) rfl rfl) rfl rfl) (pma_nil) rfl)) (pmg_name nd (i := 9) rfl (by first | exact Or.inl rfl | exact Or.inr rfl) (by first | exact Or.inl rfl | exact Or.inr rfl)) goes_name rfl rfl rfl)
    (pmss_cons (pms_expr (pm_app (pm_var (i := 9) rfl (by first | exact Or.inl rfl | exact Or.inr (Or.inl rfl) | exact Or.inr (Or.inr rfl)) (by decide) (by decide)) (pm_callL (j := F__law_outcome) (d := dt__law_outcome) GL rfl rfl (by rfl) T.f__law_outcome.mg T.f__law_outcome.kp ⟨lamP_by (ps := []) (by rfl), by rfl, rfl, fun _ _ _ _ _ us hl => (match us, hl with | [], _ => rfl), hcv.symm.trans T.lc__law_right, GL.tab _ T.lm__law_right, (by rw [htb]; exact T.lt__law_right), (by rw [htb]; exact T.lu__law_right), fun _ => rfl⟩ (pla_last (bs := [false, true, false, false, false, true, false, false, false, false, false, false]) ⟨lamP_by (ps := []) (by rfl), by rfl, rfl, fun _ _ _ _ _ us hl => (match us, hl with | [], _ => rfl), hcv.symm.trans T.lc__law_right, GL.tab _ T.lm__law_right, (by rw [htb]; exact T.lt__law_right), (by rw [htb]; exact T.lu__law_right), fun _ => rfl⟩) rfl (by decide) (fun A2 base2 f2 c2 S2 ar2 lb2 Ar2 outer2 s2 H2 E2 hca hbs hS har hfa G2 => by subst hS; subst har; have T2 := hca.symm ▸ T; exact pm_callP (Gd.mkp G2 F_Ride___init__ dt_Ride___init__ rfl (by rfl) T2.mk_Ride T2.c_Ride.ca) (by rfl) T2.c_Ride.mg T2.c_Ride.kp (pma_cons (pm_var (i := 1) rfl (by first | exact Or.inl rfl | exact Or.inr (Or.inl rfl) | exact Or.inr (Or.inr rfl)) (by decide) (by decide)) (pma_cons (pm_var (i := 5) rfl (by first | exact Or.inl rfl | exact Or.inr (Or.inl rfl) | exact Or.inr (Or.inr rfl)) (by decide) (by decide)) (pma_nil) rfl) rfl) (lenA_cons (lenA_cons lenA_nil)) (by decide) rfl rfl) rfl rfl) rfl rfl rfl rfl) rfl)
    (pmss_cons (pms_expr (pm_app (pm_var (i := 9) rfl (by first | exact Or.inl rfl | exact Or.inr (Or.inl rfl) | exact Or.inr (Or.inr rfl)) (by decide) (by decide)) (pm_callL (j := F__law_outcome) (d := dt__law_outcome) GL rfl rfl (by rfl) T.f__law_outcome.mg T.f__law_outcome.kp ⟨lamP_by (ps := []) (by rfl), by rfl, rfl, fun _ _ _ _ _ us hl => (match us, hl with | [], _ => rfl), hcv.symm.trans T.lc__law_right, GL.tab _ T.lm__law_right, (by rw [htb]; exact T.lt__law_right), (by rw [htb]; exact T.lu__law_right), fun _ => rfl⟩ (pla_last (bs := [false, true, false, false, false, false, false, false, true, false, false, false]) ⟨lamP_by (ps := []) (by rfl), by rfl, rfl, fun _ _ _ _ _ us hl => (match us, hl with | [], _ => rfl), hcv.symm.trans T.lc__law_right, GL.tab _ T.lm__law_right, (by rw [htb]; exact T.lt__law_right), (by rw [htb]; exact T.lu__law_right), fun _ => rfl⟩) rfl (by decide) (fun A2 base2 f2 c2 S2 ar2 lb2 Ar2 outer2 s2 H2 E2 hca hbs hS har hfa G2 => by subst hS; subst har; have T2 := hca.symm ▸ T; exact pm_callP (Gd.mkp G2 F_Ride___init__ dt_Ride___init__ rfl (by rfl) T2.mk_Ride T2.c_Ride.ca) (by rfl) T2.c_Ride.mg T2.c_Ride.kp (pma_cons (pm_var (i := 1) rfl (by first | exact Or.inl rfl | exact Or.inr (Or.inl rfl) | exact Or.inr (Or.inr rfl)) (by decide) (by decide)) (pma_cons (pm_var (i := 8) rfl (by first | exact Or.inl rfl | exact Or.inr (Or.inl rfl) | exact Or.inr (Or.inr rfl)) (by decide) (by decide)) (pma_nil) rfl) rfl) (lenA_cons (lenA_cons lenA_nil)) (by decide) rfl rfl) rfl rfl) rfl rfl rfl rfl) rfl)
    (pmss_cons (pms_expr (pm_app (pm_var (i := 9) rfl (by first | exact Or.inl rfl | exact Or.inr (Or.inl rfl) | exact Or.inr (Or.inr rfl)) (by decide) (by decide)) (pm_callL (j := F__law_outcome) (d := dt__law_outcome) GL rfl rfl (by rfl) T.f__law_outcome.mg T.f__law_outcome.kp ⟨lamP_by (ps := []) (by rfl), by rfl, rfl, fun _ _ _ _ _ us hl => (match us, hl with | [], _ => rfl), hcv.symm.trans T.lc__law_right, GL.tab _ T.lm__law_right, (by rw [htb]; exact T.lt__law_right), (by rw [htb]; exact T.lu__law_right), fun _ => rfl⟩ (pla_last (bs := [false, false, true, true, false, false, false, false, false, false, false, false]) ⟨lamP_by (ps := []) (by rfl), by rfl, rfl, fun _ _ _ _ _ us hl => (match us, hl with | [], _ => rfl), hcv.symm.trans T.lc__law_right, GL.tab _ T.lm__law_right, (by rw [htb]; exact T.lt__law_right), (by rw [htb]; exact T.lu__law_right), fun _ => rfl⟩) rfl (by decide) (fun A2 base2 f2 c2 S2 ar2 lb2 Ar2 outer2 s2 H2 E2 hca hbs hS har hfa G2 => by subst hS; subst har; have T2 := hca.symm ▸ T; exact pm_callK0 (Gd.mkk G2 F_Ride___init__ dt_Ride___init__ rfl T2.mk_Ride T2.c_Ride.ca T2.sh_Ride___init___1_riders_costs) (by rfl) T2.c_Ride.mg T2.c_Ride.kp (pmk_cons (pm_var (i := 2) rfl (by first | exact Or.inl rfl | exact Or.inr (Or.inl rfl) | exact Or.inr (Or.inr rfl)) (by decide) (by decide)) (pmk_cons (pm_var (i := 3) rfl (by first | exact Or.inl rfl | exact Or.inr (Or.inl rfl) | exact Or.inr (Or.inr rfl)) (by decide) (by decide)) (pmk_nil))) (lenA_cons (lenA_cons lenA_nil)) rfl rfl (by decide) rfl) rfl rfl) rfl rfl rfl rfl) rfl)
    (pmss_cons (pms_asg (pm_lst (pma_cons (pm_lst (pma_cons (pm_str) (pma_cons (pm_var (i := 4) rfl (by first | exact Or.inl rfl | exact Or.inr (Or.inl rfl) | exact Or.inr (Or.inr rfl)) (by decide) (by decide)) (pma_cons (pm_bl) (pma_nil) rfl) rfl) rfl)) (pma_cons (pm_lst (pma_cons (pm_str) (pma_cons (pm_var (i := 6) rfl (by first | exact Or.inl rfl | exact Or.inr (Or.inl rfl) | exact Or.inr (Or.inr rfl)) (by decide) (by decide)) (pma_cons (pm_bl) (pma_nil) rfl) rfl) rfl)) (pma_cons (pm_lst (pma_cons (pm_str) (pma_cons (pm_int) (pma_cons (pm_bl) (pma_nil) rfl) rfl) rfl)) (pma_nil) rfl) rfl) rfl)) (pmg_name nd (i := 10) rfl (by first | exact Or.inl rfl | exact Or.inr rfl) (by first | exact Or.inl rfl | exact Or.inr rfl)) goes_name rfl rfl rfl)
    (pmss_cons (pms_expr (pm_app (pm_var (i := 10) rfl (by first | exact Or.inl rfl | exact Or.inr (Or.inl rfl) | exact Or.inr (Or.inr rfl)) (by decide) (by decide)) (pm_lst (pma_cons (pm_str) (pma_cons (pm_var (i := 4) rfl (by first | exact Or.inl rfl | exact Or.inr (Or.inl rfl) | exact Or.inr (Or.inr rfl)) (by decide) (by decide)) (pma_cons (pm_bl) (pma_nil) rfl) rfl) rfl)) rfl rfl rfl rfl) rfl)
    (pmss_cons (pms_if (pmt_cmp (op_neI (Gd.sp G T.s_eq rfl) T.nf_eq.ok T.ne_eq.ok (Gd.un G)) (pm_callB (cl_reprI (Gd.sp G T.s_repr rfl) (Gd.gd G) (Gd.un G)) (by rfl) T.b_repr bb_repr (pma_cons (pm_var (i := 9) rfl (by first | exact Or.inl rfl | exact Or.inr (Or.inl rfl) | exact Or.inr (Or.inr rfl)) (by decide) (by decide)) (pma_nil) rfl) (by decide) (by decide) rfl rfl) (pm_callB (cl_reprI (Gd.sp G T.s_repr rfl) (Gd.gd G) (Gd.un G)) (by rfl) T.b_repr bb_repr (pma_cons (pm_var (i := 10) rfl (by first | exact Or.inl rfl | exact Or.inr (Or.inl rfl) | exact Or.inr (Or.inr rfl)) (by decide) (by decide)) (pma_nil) rfl) (by decide) (by decide) rfl rfl) (nomark _)) (pmss_cons (pms_ret (pm_bl))
    (pmss_nil)) (pmss_nil))
    (pmss_cons (pms_asg (pm_bin op_addM (pm_bin op_mulM (pm_tup (pma_cons (pm_tup (pma_cons (pm_int) (pma_cons (pm_int) (pma_cons (pm_int) (pma_nil) rfl) rfl) rfl)) (pma_nil) rfl)) (pm_int)) (pm_bin op_mulM (pm_tup (pma_cons (pm_tup (pma_cons (pm_int) (pma_cons (pm_int) (pma_cons (pm_int) (pma_nil) rfl) rfl) rfl)) (pma_nil) rfl)) (pm_int))) (pmg_name nd (i := 11) rfl (by first | exact Or.inl rfl | exact Or.inr rfl) (by first | exact Or.inl rfl | exact Or.inr rfl)) goes_name rfl rfl rfl)
    (pmss_cons (pms_ret (pm_cmp (op_eqI (Gd.sp G T.s_eq rfl) T.nf_eq.ok (Gd.un G)) (pm_lst (pma_cons (pm_ix (pm_fld T.a_costs (pm_callP (Gd.mkp G F_Ride___init__ dt_Ride___init__ rfl (by rfl) T.mk_Ride T.c_Ride.ca) (by rfl) T.c_Ride.mg T.c_Ride.kp (pma_cons (pm_bin op_mulM (pm_tup (pma_cons (pm_bin op_powM (pm_int) (pm_int)) (pma_nil) rfl)) (pm_int)) (pma_cons (pm_tup (pma_cons (pm_tup (pma_cons (pm_int) (pma_cons (pm_int) (pma_cons (pm_int) (pma_nil) rfl) rfl) rfl)) (pma_nil) rfl)) (pma_nil) rfl) rfl) (lenA_cons (lenA_cons lenA_nil)) (by decide) rfl rfl) rfl) (pm_int) (plain_ix fun _ _ _ h => nomatch h)) (pma_cons (pm_callB (cl_lenI (Gd.sp G T.s_len rfl)) (by rfl) T.b_len bb_len (pma_cons (pm_callP (Gd.mkp G F_Ride___init__ dt_Ride___init__ rfl (by rfl) T.mk_Ride T.c_Ride.ca) (by rfl) T.c_Ride.mg T.c_Ride.kp (pma_cons (pm_var (i := 1) rfl (by first | exact Or.inl rfl | exact Or.inr (Or.inl rfl) | exact Or.inr (Or.inr rfl)) (by decide) (by decide)) (pma_cons (pm_var (i := 11) rfl (by first | exact Or.inl rfl | exact Or.inr (Or.inl rfl) | exact Or.inr (Or.inr rfl)) (by decide) (by decide)) (pma_nil) rfl) rfl) (lenA_cons (lenA_cons lenA_nil)) (by decide) rfl rfl) (pma_nil) rfl) (by decide) (by decide) rfl rfl) (pma_cons (pm_callB (cl_lenI (Gd.sp G T.s_len rfl)) (by rfl) T.b_len bb_len (pma_cons (pm_callP (Gd.mkp G F_Ride___init__ dt_Ride___init__ rfl (by rfl) T.mk_Ride T.c_Ride.ca) (by rfl) T.c_Ride.mg T.c_Ride.kp (pma_cons (pm_tup (pma_cons (pm_int) (pma_nil) rfl)) (pma_cons (pm_tup (pma_cons (pm_tup (pma_cons (pm_int) (pma_cons (pm_int) (pma_cons (pm_int) (pma_nil) rfl) rfl) rfl)) (pma_nil) rfl)) (pma_nil) rfl) rfl) (lenA_cons (lenA_cons lenA_nil)) (by decide) rfl rfl) (pma_nil) rfl) (by decide) (by decide) rfl rfl) (pma_nil) rfl) rfl) rfl)) (pm_lst (pma_cons (pm_bin op_powM (pm_int) (pm_int)) (pma_cons (pm_int) (pma_cons (pm_int) (pma_nil) rfl) rfl) rfl)) (nomark _)))
    (pmss_nil)))))))))))))
theorem b_law (T : Txt A.ca tb K mg p pc) (GL : GdL A (cxi dt_law P w K mg base f cdv Ar outer s H E) (fun cls d _ H' => E cls d H') DT p v l) :
    PMSs A (cxi dt_law P w K mg base f cdv Ar outer s H E) (fun cls d _ H' => E cls d H') (defBody dt_law.st) (D_law v.S) := by
  have G := GL.gd
  have nd : dt_law.N.Nodup := by decide +kernel
  exact pmss_cons (pms_ret (pm_fuseB (cll_all (Gd.calm G)) (by rfl) T.b_all bb_all (pml_lc (Gd.calm G) nd (pmi_range1 (by rfl) T.b_range (pma_cons (pm_callB (cl_max (Gd.calm G)) (by rfl) T.b_max bb_max (pma_cons (pm_int) (pma_cons (pm_callB (cl_min (Gd.calm G)) (by rfl) T.b_min bb_min (pma_cons (pm_callB (cl_lenI (Gd.sp G T.s_len rfl)) (by rfl) T.b_len bb_len (pma_cons (pm_var (i := 0) rfl (by first | exact Or.inl rfl | exact Or.inr (Or.inl rfl) | exact Or.inr (Or.inr rfl)) (by decide) (by decide)) (pma_nil) rfl) (by decide) (by decide) rfl rfl) (pma_cons (pm_int) (pma_nil) rfl) rfl) (by decide) (by decide) rfl rfl) (pma_nil) rfl) rfl) (by decide) (by decide) rfl rfl) (pma_nil) rfl) rfl) (own := [("_law_k", 1)]) (blkOk_by (by kernel_rfl)) (fun _ _ _ _ _ => pct_one nd rfl (by first | exact Or.inl rfl | exact Or.inr rfl) (by first | exact Or.inl rfl | exact Or.inr rfl)) (fun _ _ _ _ _ => pmts_nil) (fun _ _ _ _ _ => pm_callP (Gd.cv (Gd.blk G _ _ _ _ _) F__law_right dt__law_right rfl) (by rfl) T.f__law_right.mg T.f__law_right.kp (pma_cons (pm_callP (Gd.cv (Gd.blk G _ _ _ _ _) F__law_jug dt__law_jug rfl) (by rfl) T.f__law_jug.mg T.f__law_jug.kp (pma_cons (pm_var (i := 0) rfl (by first | exact Or.inl rfl | exact Or.inr (Or.inl rfl) | exact Or.inr (Or.inr rfl)) (by decide) (by decide)) (pma_cons (pm_var (i := 1) rfl (by first | exact Or.inl rfl | exact Or.inr (Or.inl rfl) | exact Or.inr (Or.inr rfl)) (by decide) (by decide)) (pma_nil) rfl) rfl) (lenA_cons (lenA_cons lenA_nil)) (by decide) rfl rfl) (pma_nil) rfl) (lenA_cons lenA_nil) (by decide) rfl rfl) (fun _ => rfl) (by decide)) (by decide) (by decide) rfl))
    (pmss_nil)
end
theorem sc_is_integer : FnScope dt_is_integer.N dt_is_integer.ps (defScope dt_is_integer.st) := ⟨rfl, rfl, rfl, by decide +kernel, rfl, by decide +kernel, by decide +kernel⟩
theorem sc_is_between : FnScope dt_is_between.N dt_is_between.ps (defScope dt_is_between.st) := ⟨rfl, rfl, rfl, by decide +kernel, rfl, by decide +kernel, by decide +kernel⟩
theorem sc_check_costs : FnScope dt_check_costs.N dt_check_costs.ps (defScope dt_check_costs.st) := ⟨rfl, rfl, rfl, by decide +kernel, rfl, by decide +kernel, by decide +kernel⟩
theorem sc_is_rider : FnScope dt_is_rider.N dt_is_rider.ps (defScope dt_is_rider.st) := ⟨rfl, rfl, rfl, by decide +kernel, rfl, by decide +kernel, by decide +kernel⟩
theorem sc_check_riders : FnScope dt_check_riders.N dt_check_riders.ps (defScope dt_check_riders.st) := ⟨rfl, rfl, rfl, by decide +kernel, rfl, by decide +kernel, by decide +kernel⟩
theorem sc_aboard_at : FnScope dt_aboard_at.N dt_aboard_at.ps (defScope dt_aboard_at.st) := ⟨rfl, rfl, rfl, by decide +kernel, rfl, by decide +kernel, by decide +kernel⟩
theorem sc_is_crowded : FnScope dt_is_crowded.N dt_is_crowded.ps (defScope dt_is_crowded.st) := ⟨rfl, rfl, rfl, by decide +kernel, rfl, by decide +kernel, by decide +kernel⟩
theorem sc_Ride___init__ : FnScope dt_Ride___init__.N dt_Ride___init__.ps (defScope dt_Ride___init__.st) := ⟨rfl, rfl, rfl, by decide +kernel, rfl, by decide +kernel, by decide +kernel⟩
theorem sc_Ride___len__ : FnScope dt_Ride___len__.N dt_Ride___len__.ps (defScope dt_Ride___len__.st) := ⟨rfl, rfl, rfl, by decide +kernel, rfl, by decide +kernel, by decide +kernel⟩
theorem sc_Ride___eq__ : FnScope dt_Ride___eq__.N dt_Ride___eq__.ps (defScope dt_Ride___eq__.st) := ⟨rfl, rfl, rfl, by decide +kernel, rfl, by decide +kernel, by decide +kernel⟩
theorem sc_Ride___repr__ : FnScope dt_Ride___repr__.N dt_Ride___repr__.ps (defScope dt_Ride___repr__.st) := ⟨rfl, rfl, rfl, by decide +kernel, rfl, by decide +kernel, by decide +kernel⟩
theorem sc__law_jug : FnScope dt__law_jug.N dt__law_jug.ps (defScope dt__law_jug.st) := ⟨rfl, rfl, rfl, by decide +kernel, rfl, by decide +kernel, by decide +kernel⟩
theorem sc__law_drop : FnScope dt__law_drop.N dt__law_drop.ps (defScope dt__law_drop.st) := ⟨rfl, rfl, rfl, by decide +kernel, rfl, by decide +kernel, by decide +kernel⟩
theorem sc__law_one : FnScope dt__law_one.N dt__law_one.ps (defScope dt__law_one.st) := ⟨rfl, rfl, rfl, by decide +kernel, rfl, by decide +kernel, by decide +kernel⟩
theorem sc__law_outcome : FnScope dt__law_outcome.N dt__law_outcome.ps (defScope dt__law_outcome.st) := ⟨rfl, rfl, rfl, by decide +kernel, rfl, by decide +kernel, by decide +kernel⟩
theorem sc__law_bad_prices : FnScope dt__law_bad_prices.N dt__law_bad_prices.ps (defScope dt__law_bad_prices.st) := ⟨rfl, rfl, rfl, by decide +kernel, rfl, by decide +kernel, by decide +kernel⟩
theorem sc__law_bad_folk : FnScope dt__law_bad_folk.N dt__law_bad_folk.ps (defScope dt__law_bad_folk.st) := ⟨rfl, rfl, rfl, by decide +kernel, rfl, by decide +kernel, by decide +kernel⟩
theorem sc__law_right : FnScope dt__law_right.N dt__law_right.ps (defScope dt__law_right.st) := ⟨rfl, rfl, rfl, by decide +kernel, rfl, by decide +kernel, by decide +kernel⟩
theorem sc_law : FnScope dt_law.N dt_law.ps (defScope dt_law.st) := ⟨rfl, rfl, rfl, by decide +kernel, rfl, by decide +kernel, by decide +kernel⟩
def fdOf (d : DefT) (kV doc pm : Value) (an : Option Addr) (cd ct : Value) : FuncData := PySem.W.fnOf d.name d.qual (defArgs d.st) (defBody d.st) (defScope d.st) .none kV doc pm an cd ct
set_option maxHeartbeats 0 in
theorem all_mk {ts : List Addr} {l : PySem.W.OpenLaw} {w : World} {K : PySem.W.Frag} {h : Heap} {mg : Str → Option Value} {fl f0 f1 f2 f3 f4 f5 f6 f7 f8 f9 f10 f11 f12 f13 f14 f15 f16 f17 f18 C6 C0 C3 C4 C1 C5 : Addr} {od0 an0 od1 an1 od2 an2 od3 an3 od4 an4 od5 an5 od6 an6 od7 an7 od8 an8 od9 an9 od10 an10 od11 an11 od12 an12 od13 an13 od14 an14 od15 an15 od16 an16 od17 an17 od18 an18 : Option Addr} {sl0 sl1 sl2 sl3 sl4 sl5 sl6 sl7 sl8 sl9 sl10 sl11 sl12 sl13 sl14 sl15 sl16 sl17 sl18 : Array (Option Value)} {oc0 kV0 dc0 pm0 ct0 cd0 oc1 kV1 dc1 pm1 ct1 cd1 oc2 kV2 dc2 pm2 ct2 cd2 oc3 kV3 dc3 pm3 ct3 cd3 oc4 kV4 dc4 pm4 ct4 cd4 oc5 kV5 dc5 pm5 ct5 cd5 oc6 kV6 dc6 pm6 ct6 cd6 oc7 kV7 dc7 pm7 ct7 cd7 oc8 kV8 dc8 pm8 ct8 cd8 oc9 kV9 dc9 pm9 ct9 cd9 oc10 kV10 dc10 pm10 ct10 cd10 oc11 kV11 dc11 pm11 ct11 cd11 oc12 kV12 dc12 pm12 ct12 cd12 oc13 kV13 dc13 pm13 ct13 cd13 oc14 kV14 dc14 pm14 ct14 cd14 oc15 kV15 dc15 pm15 ct15 cd15 oc16 kV16 dc16 pm16 ct16 cd16 oc17 kV17 dc17 pm17 ct17 oc18 kV18 dc18 pm18 ct18 cd18 : Value} {yn3 yq3 : Str} {yN3 : Addr} {yb3 : List Value} {ys3 : List Str} {yu3 : List Value} {ya3 : Bool} {yo3 : Option Bool} {yd3 : Option Addr} {ym03 ym13 ym23 ym33 ym53 : Option Value} {yf3 : Addr} {yoc3 ydc3 ypm3 ycd3 yct3 : Value} {yod3 yan3 : Option Addr} {ysl3 : Array (Option Value)} {yn4 yq4 : Str} {yN4 : Addr} {yb4 : List Value} {ys4 : List Str} {yu4 : List Value} {ya4 : Bool} {yo4 : Option Bool} {yd4 : Option Addr} {ym04 ym14 ym24 ym34 ym54 : Option Value} {yf4 : Addr} {yoc4 ydc4 ypm4 ycd4 yct4 : Value} {yod4 yan4 : Option Addr} {ysl4 : Array (Option Value)} {yn5 yq5 : Str} {yN5 : Addr} {yb5 : List Value} {ys5 : List Str} {yu5 : List Value} {ya5 : Bool} {yo5 : Option Bool} {yd5 : Option Addr} {ym05 ym15 ym25 ym35 ym55 : Option Value} {yf5 : Addr} {yoc5 ydc5 ypm5 ycd5 yct5 : Value} {yod5 yan5 : Option Addr} {ysl5 : Array (Option Value)} {cdt6 : ClassData} {tk_MOST_ABOARD tk_MOST_BAGS tk_MOST_COST tk_MOST_RIDERS tk_MOST_STRETCHES : Tok} {cq17 : Addr} (X : K.In h) (G : h.Ns mainGlobals mg) (hfa : mg "law" = some (.ref fl))
    (aC6 : PySem.W.nsIn K mainGlobals "Ride" = some (some (.ref C6)))
    (a0 : PySem.W.nsIn K mainGlobals "is_integer" = some (some (.ref f0)))
    (l0 : K.lookup f0 = some ⟨oc0, od0, .func (PySem.W.fnOf "is_integer" "is_integer" (defArgs dt_is_integer.st) (defBody dt_is_integer.st) (defScope dt_is_integer.st) .none kV0 dc0 pm0 an0 cd0 ct0), sl0⟩)
    (c0 : PySem.W.codeIn K cd0 "is_integer" = true)
    (k0 : PySem.W.keepIn K (.ref f0) = true)
    (a1 : PySem.W.nsIn K mainGlobals "is_between" = some (some (.ref f1)))
    (l1 : K.lookup f1 = some ⟨oc1, od1, .func (PySem.W.fnOf "is_between" "is_between" (defArgs dt_is_between.st) (defBody dt_is_between.st) (defScope dt_is_between.st) .none kV1 dc1 pm1 an1 cd1 ct1), sl1⟩)
    (c1 : PySem.W.codeIn K cd1 "is_between" = true)
    (k1 : PySem.W.keepIn K (.ref f1) = true)
    (a2 : PySem.W.nsIn K mainGlobals "check_costs" = some (some (.ref f2)))
    (l2 : K.lookup f2 = some ⟨oc2, od2, .func (PySem.W.fnOf "check_costs" "check_costs" (defArgs dt_check_costs.st) (defBody dt_check_costs.st) (defScope dt_check_costs.st) .none kV2 dc2 pm2 an2 cd2 ct2), sl2⟩)
    (c2 : PySem.W.codeIn K cd2 "check_costs" = true)
    (k2 : PySem.W.keepIn K (.ref f2) = true)
    (a3 : PySem.W.nsIn K mainGlobals "is_rider" = some (some (.ref f3)))
    (l3 : K.lookup f3 = some ⟨oc3, od3, .func (PySem.W.fnOf "is_rider" "is_rider" (defArgs dt_is_rider.st) (defBody dt_is_rider.st) (defScope dt_is_rider.st) .none kV3 dc3 pm3 an3 cd3 ct3), sl3⟩)
    (c3 : PySem.W.codeIn K cd3 "is_rider" = true)
    (k3 : PySem.W.keepIn K (.ref f3) = true)
    (a4 : PySem.W.nsIn K mainGlobals "check_riders" = some (some (.ref f4)))
    (l4 : K.lookup f4 = some ⟨oc4, od4, .func (PySem.W.fnOf "check_riders" "check_riders" (defArgs dt_check_riders.st) (defBody dt_check_riders.st) (defScope dt_check_riders.st) .none kV4 dc4 pm4 an4 cd4 ct4), sl4⟩)
    (c4 : PySem.W.codeIn K cd4 "check_riders" = true)
    (k4 : PySem.W.keepIn K (.ref f4) = true)
    (a5 : PySem.W.nsIn K mainGlobals "aboard_at" = some (some (.ref f5)))
    (l5 : K.lookup f5 = some ⟨oc5, od5, .func (PySem.W.fnOf "aboard_at" "aboard_at" (defArgs dt_aboard_at.st) (defBody dt_aboard_at.st) (defScope dt_aboard_at.st) .none kV5 dc5 pm5 an5 cd5 ct5), sl5⟩)
    (c5 : PySem.W.codeIn K cd5 "aboard_at" = true)
    (k5 : PySem.W.keepIn K (.ref f5) = true)
    (a6 : PySem.W.nsIn K mainGlobals "is_crowded" = some (some (.ref f6)))
    (l6 : K.lookup f6 = some ⟨oc6, od6, .func (PySem.W.fnOf "is_crowded" "is_crowded" (defArgs dt_is_crowded.st) (defBody dt_is_crowded.st) (defScope dt_is_crowded.st) .none kV6 dc6 pm6 an6 cd6 ct6), sl6⟩)
    (c6 : PySem.W.codeIn K cd6 "is_crowded" = true)
    (k6 : PySem.W.keepIn K (.ref f6) = true)
    (a7 : PySem.W.findIn K (.ref C6) "__init__" = some (some (.ref f7)))
    (i7 : PySem.W.isFn K (.ref f7) = true)
    (l7 : K.lookup f7 = some ⟨oc7, od7, .func (PySem.W.fnOf "__init__" "Ride.__init__" (defArgs dt_Ride___init__.st) (defBody dt_Ride___init__.st) (defScope dt_Ride___init__.st) .none kV7 dc7 pm7 an7 cd7 ct7), sl7⟩)
    (c7 : PySem.W.codeIn K cd7 "Ride.__init__" = true)
    (k7 : PySem.W.keepIn K (.ref f7) = true)
    (a8 : PySem.W.findIn K (.ref C6) "__len__" = some (some (.ref f8)))
    (i8 : PySem.W.isFn K (.ref f8) = true)
    (l8 : K.lookup f8 = some ⟨oc8, od8, .func (PySem.W.fnOf "__len__" "Ride.__len__" (defArgs dt_Ride___len__.st) (defBody dt_Ride___len__.st) (defScope dt_Ride___len__.st) .none kV8 dc8 pm8 an8 cd8 ct8), sl8⟩)
    (c8 : PySem.W.codeIn K cd8 "Ride.__len__" = true)
    (k8 : PySem.W.keepIn K (.ref f8) = true)
    (a9 : PySem.W.findIn K (.ref C6) "__eq__" = some (some (.ref f9)))
    (i9 : PySem.W.isFn K (.ref f9) = true)
    (l9 : K.lookup f9 = some ⟨oc9, od9, .func (PySem.W.fnOf "__eq__" "Ride.__eq__" (defArgs dt_Ride___eq__.st) (defBody dt_Ride___eq__.st) (defScope dt_Ride___eq__.st) .none kV9 dc9 pm9 an9 cd9 ct9), sl9⟩)
    (c9 : PySem.W.codeIn K cd9 "Ride.__eq__" = true)
    (k9 : PySem.W.keepIn K (.ref f9) = true)
    (a10 : PySem.W.findIn K (.ref C6) "__repr__" = some (some (.ref f10)))
    (i10 : PySem.W.isFn K (.ref f10) = true)
    (l10 : K.lookup f10 = some ⟨oc10, od10, .func (PySem.W.fnOf "__repr__" "Ride.__repr__" (defArgs dt_Ride___repr__.st) (defBody dt_Ride___repr__.st) (defScope dt_Ride___repr__.st) .none kV10 dc10 pm10 an10 cd10 ct10), sl10⟩)
    (c10 : PySem.W.codeIn K cd10 "Ride.__repr__" = true)
    (k10 : PySem.W.keepIn K (.ref f10) = true)
    (a11 : PySem.W.nsIn K mainGlobals "_law_jug" = some (some (.ref f11)))
    (l11 : K.lookup f11 = some ⟨oc11, od11, .func (PySem.W.fnOf "_law_jug" "_law_jug" (defArgs dt__law_jug.st) (defBody dt__law_jug.st) (defScope dt__law_jug.st) .none kV11 dc11 pm11 an11 cd11 ct11), sl11⟩)
    (c11 : PySem.W.codeIn K cd11 "_law_jug" = true)
    (k11 : PySem.W.keepIn K (.ref f11) = true)
    (a12 : PySem.W.nsIn K mainGlobals "_law_drop" = some (some (.ref f12)))
    (l12 : K.lookup f12 = some ⟨oc12, od12, .func (PySem.W.fnOf "_law_drop" "_law_drop" (defArgs dt__law_drop.st) (defBody dt__law_drop.st) (defScope dt__law_drop.st) .none kV12 dc12 pm12 an12 cd12 ct12), sl12⟩)
    (c12 : PySem.W.codeIn K cd12 "_law_drop" = true)
    (k12 : PySem.W.keepIn K (.ref f12) = true)
    (a13 : PySem.W.nsIn K mainGlobals "_law_one" = some (some (.ref f13)))
    (l13 : K.lookup f13 = some ⟨oc13, od13, .func (PySem.W.fnOf "_law_one" "_law_one" (defArgs dt__law_one.st) (defBody dt__law_one.st) (defScope dt__law_one.st) .none kV13 dc13 pm13 an13 cd13 ct13), sl13⟩)
    (c13 : PySem.W.codeIn K cd13 "_law_one" = true)
    (k13 : PySem.W.keepIn K (.ref f13) = true)
    (a14 : PySem.W.nsIn K mainGlobals "_law_outcome" = some (some (.ref f14)))
    (l14 : K.lookup f14 = some ⟨oc14, od14, .func (PySem.W.fnOf "_law_outcome" "_law_outcome" (defArgs dt__law_outcome.st) (defBody dt__law_outcome.st) (defScope dt__law_outcome.st) .none kV14 dc14 pm14 an14 cd14 ct14), sl14⟩)
    (c14 : PySem.W.codeIn K cd14 "_law_outcome" = true)
    (k14 : PySem.W.keepIn K (.ref f14) = true)
    (a15 : PySem.W.nsIn K mainGlobals "_law_bad_prices" = some (some (.ref f15)))
    (l15 : K.lookup f15 = some ⟨oc15, od15, .func (PySem.W.fnOf "_law_bad_prices" "_law_bad_prices" (defArgs dt__law_bad_prices.st) (defBody dt__law_bad_prices.st) (defScope dt__law_bad_prices.st) .none kV15 dc15 pm15 an15 cd15 ct15), sl15⟩)
    (c15 : PySem.W.codeIn K cd15 "_law_bad_prices" = true)
    (k15 : PySem.W.keepIn K (.ref f15) = true)
    (a16 : PySem.W.nsIn K mainGlobals "_law_bad_folk" = some (some (.ref f16)))
    (l16 : K.lookup f16 = some ⟨oc16, od16, .func (PySem.W.fnOf "_law_bad_folk" "_law_bad_folk" (defArgs dt__law_bad_folk.st) (defBody dt__law_bad_folk.st) (defScope dt__law_bad_folk.st) .none kV16 dc16 pm16 an16 cd16 ct16), sl16⟩)
    (c16 : PySem.W.codeIn K cd16 "_law_bad_folk" = true)
    (k16 : PySem.W.keepIn K (.ref f16) = true)
    (a17 : PySem.W.nsIn K mainGlobals "_law_right" = some (some (.ref f17)))
    (l17 : K.lookup f17 = some ⟨oc17, od17, .func (PySem.W.fnOf "_law_right" "_law_right" (defArgs dt__law_right.st) (defBody dt__law_right.st) (defScope dt__law_right.st) .none kV17 dc17 pm17 an17 (.ref cq17) ct17), sl17⟩)
    (c17 : PySem.W.codeIn K (.ref cq17) "_law_right" = true)
    (k17 : PySem.W.keepIn K (.ref f17) = true)
    (a18 : PySem.W.nsIn K mainGlobals "law" = some (some (.ref f18)))
    (l18 : K.lookup f18 = some ⟨oc18, od18, .func (PySem.W.fnOf "law" "law" (defArgs dt_law.st) (defBody dt_law.st) (defScope dt_law.st) .none kV18 dc18 pm18 an18 cd18 ct18), sl18⟩)
    (c18 : PySem.W.codeIn K cd18 "law" = true)
    (k18 : PySem.W.keepIn K (.ref f18) = true)
    (pg6 : PySem.W.plainGet K C6 Str.empty = true)
    (hd6 : PySem.W.hasDictIn K C6 = true)
    (po6 : PySem.W.plainOver K C6 = true)
    (sa6 : PySem.W.findIn K (.ref C6) "__setattr__" = some (some (.builtin "object.__setattr__")))
    (mk6 : PySem.W.makesIn K C6 = true)
    (kc6 : PySem.W.keepIn K (.ref C6) = true)
    (ha6 : PySem.W.findIn K (.ref C6) "__class__" = some (some (.builtin "object.__class__")))
    (hm6 : PySem.W.mroIn K C6 (.type "object") = some true)
    (cd_6 : PySem.W.clsIn K C6 = some cdt6)
    (ty6 : PySem.W.typeIn K (.ref C6) = some (.type "type"))
    (sb6_NoneType : PySem.W.subIn K (.type "NoneType") (.ref C6) = some false)
    (sb6_bool : PySem.W.subIn K (.type "bool") (.ref C6) = some false)
    (sb6_int : PySem.W.subIn K (.type "int") (.ref C6) = some false)
    (sb6_str : PySem.W.subIn K (.type "str") (.ref C6) = some false)
    (sb6_tuple : PySem.W.subIn K (.type "tuple") (.ref C6) = some false)
    (sb6_list : PySem.W.subIn K (.type "list") (.ref C6) = some false)
    (so6_tuple : PySem.W.subIn K (.ref C6) (.type "tuple") = some false)
    (so6_int : PySem.W.subIn K (.ref C6) (.type "int") = some false)
    (so6_bool : PySem.W.subIn K (.ref C6) (.type "bool") = some false)
    (so6_str : PySem.W.subIn K (.ref C6) (.type "str") = some false)
    (so6_object : PySem.W.subIn K (.ref C6) (.type "object") = some true)
    (ne6 : PySem.W.findIn K (.ref C6) "__ne__" = some (some (.builtin "object.__ne__")))
    (nb6 : PySem.W.findIn K (.ref C6) "__bool__" = some none)
    (na6_costs : PySem.W.findIn K (.ref C6) "costs" = some none)
    (na6_riders : PySem.W.findIn K (.ref C6) "riders" = some none)
    (na6_told : PySem.W.findIn K (.ref C6) "told" = some none)
    (hn_ : PySem.W.specialIn K (.builtin "object.__class__") "__get__" = some (some (.builtin "getset_descriptor.__get__")))
    (htk_ : PySem.W.takesIn K (.builtin "object.__class__") = some true)
    (aC0 : PySem.W.nsIn K mainGlobals "InputError" = some (some (.ref C0)))
    (bx0 : PySem.W.subIn K (.ref C0) (.type "BaseException") = some true)
    (tx0 : PySem.W.typeIn K (.ref C0) = some (.type "type"))
    (aC3 : PySem.W.nsIn K mainGlobals "InvalidCosts" = some (some (.ref C3)))
    (bx3 : PySem.W.subIn K (.ref C3) (.type "BaseException") = some true)
    (tx3 : PySem.W.typeIn K (.ref C3) = some (.type "type"))
    (aC4 : PySem.W.nsIn K mainGlobals "InvalidRiders" = some (some (.ref C4)))
    (bx4 : PySem.W.subIn K (.ref C4) (.type "BaseException") = some true)
    (tx4 : PySem.W.typeIn K (.ref C4) = some (.type "type"))
    (aC1 : PySem.W.nsIn K mainGlobals "SizeError" = some (some (.ref C1)))
    (bx1 : PySem.W.subIn K (.ref C1) (.type "BaseException") = some true)
    (tx1 : PySem.W.typeIn K (.ref C1) = some (.type "type"))
    (aC5 : PySem.W.nsIn K mainGlobals "TooMany" = some (some (.ref C5)))
    (bx5 : PySem.W.subIn K (.ref C5) (.type "BaseException") = some true)
    (tx5 : PySem.W.typeIn K (.ref C5) = some (.type "type"))
    (dx3 : PySem.W.hasDictIn K C3 = true)
    (dx4 : PySem.W.hasDictIn K C4 = true)
    (dx5 : PySem.W.hasDictIn K C5 = true)
    (sx3_3 : PySem.W.subIn K (.ref C3) (.ref C3) = some true)
    (sx3_4 : PySem.W.subIn K (.ref C3) (.ref C4) = some false)
    (sx3_5 : PySem.W.subIn K (.ref C3) (.ref C5) = some false)
    (sx4_3 : PySem.W.subIn K (.ref C4) (.ref C3) = some false)
    (sx4_4 : PySem.W.subIn K (.ref C4) (.ref C4) = some true)
    (sx4_5 : PySem.W.subIn K (.ref C4) (.ref C5) = some false)
    (sx5_3 : PySem.W.subIn K (.ref C5) (.ref C3) = some false)
    (sx5_4 : PySem.W.subIn K (.ref C5) (.ref C4) = some false)
    (sx5_5 : PySem.W.subIn K (.ref C5) (.ref C5) = some true)
    (yl3 : K.lookup C3 = some (PySem.excClassObj yn3 yq3 C3 yN3 yb3 [.ref C0, .type "ValueError", .type "Exception", .type "BaseException", .type "object"] true ys3 yu3 ya3 yo3 yd3 ym03 ym13 ym23 ym33 ym53 "ValueError.__new__"))
    (ysa3 : PySem.W.findIn K (.ref C3) "__setattr__" = some (some (.builtin "object.__setattr__")))
    (yga3 : PySem.W.findIn K (.ref C3) "__getattribute__" = some (some (.builtin "BaseException.__getattribute__")))
    (ygg3 : PySem.W.findIn K (.ref C3) "__getattr__" = some none)
    (ynf3 : PySem.W.findIn K (.ref C3) "index" = some none)
    (yi3 : PySem.W.findIn K (.ref C3) "__init__" = some (some (.ref yf3)))
    (yt3 : PySem.W.typeIn K (.ref yf3) = some (.type "function"))
    (yL3 : K.lookup yf3 = some ⟨yoc3, yod3, .func (PySem.W.fnOf "__init__" "InvalidCosts.__init__" (PySem.Er_indexX.iA ⟨15, 17, 15, 21⟩ ⟨15, 23, 15, 28⟩) (PySem.Er_indexX.iB ⟨16, 8, 16, 12⟩ ⟨16, 8, 16, 18⟩ ⟨16, 21, 16, 26⟩ ⟨16, 8, 16, 26⟩) PySem.Er_indexX.iS .none .none ydc3 ypm3 yan3 ycd3 yct3), ysl3⟩)
    (yc3 : PySem.W.codeIn K ycd3 "InvalidCosts.__init__" = true)
    (yk3 : PySem.W.keepIn K (.ref C3) = true)
    (yh3 : PySem.W.hasDictIn K C3 = true)
    (yl4 : K.lookup C4 = some (PySem.excClassObj yn4 yq4 C4 yN4 yb4 [.ref C0, .type "ValueError", .type "Exception", .type "BaseException", .type "object"] true ys4 yu4 ya4 yo4 yd4 ym04 ym14 ym24 ym34 ym54 "ValueError.__new__"))
    (ysa4 : PySem.W.findIn K (.ref C4) "__setattr__" = some (some (.builtin "object.__setattr__")))
    (yga4 : PySem.W.findIn K (.ref C4) "__getattribute__" = some (some (.builtin "BaseException.__getattribute__")))
    (ygg4 : PySem.W.findIn K (.ref C4) "__getattr__" = some none)
    (ynf4 : PySem.W.findIn K (.ref C4) "index" = some none)
    (yi4 : PySem.W.findIn K (.ref C4) "__init__" = some (some (.ref yf4)))
    (yt4 : PySem.W.typeIn K (.ref yf4) = some (.type "function"))
    (yL4 : K.lookup yf4 = some ⟨yoc4, yod4, .func (PySem.W.fnOf "__init__" "InvalidRiders.__init__" (PySem.Er_indexX.iA ⟨19, 17, 19, 21⟩ ⟨19, 23, 19, 28⟩) (PySem.Er_indexX.iB ⟨20, 8, 20, 12⟩ ⟨20, 8, 20, 18⟩ ⟨20, 21, 20, 26⟩ ⟨20, 8, 20, 26⟩) PySem.Er_indexX.iS .none .none ydc4 ypm4 yan4 ycd4 yct4), ysl4⟩)
    (yc4 : PySem.W.codeIn K ycd4 "InvalidRiders.__init__" = true)
    (yk4 : PySem.W.keepIn K (.ref C4) = true)
    (yh4 : PySem.W.hasDictIn K C4 = true)
    (yl5 : K.lookup C5 = some (PySem.excClassObj yn5 yq5 C5 yN5 yb5 [.ref C1, .type "ArithmeticError", .type "Exception", .type "BaseException", .type "object"] true ys5 yu5 ya5 yo5 yd5 ym05 ym15 ym25 ym35 ym55 "ArithmeticError.__new__"))
    (ysa5 : PySem.W.findIn K (.ref C5) "__setattr__" = some (some (.builtin "object.__setattr__")))
    (yga5 : PySem.W.findIn K (.ref C5) "__getattribute__" = some (some (.builtin "BaseException.__getattribute__")))
    (ygg5 : PySem.W.findIn K (.ref C5) "__getattr__" = some none)
    (ynf5 : PySem.W.findIn K (.ref C5) "limit" = some none)
    (yi5 : PySem.W.findIn K (.ref C5) "__init__" = some (some (.ref yf5)))
    (yt5 : PySem.W.typeIn K (.ref yf5) = some (.type "function"))
    (yL5 : K.lookup yf5 = some ⟨yoc5, yod5, .func (PySem.W.fnOf "__init__" "TooMany.__init__" (PySem.Er_limitX.iA ⟨23, 17, 23, 21⟩ ⟨23, 23, 23, 28⟩) (PySem.Er_limitX.iB ⟨24, 8, 24, 12⟩ ⟨24, 8, 24, 18⟩ ⟨24, 21, 24, 26⟩ ⟨24, 8, 24, 26⟩) PySem.Er_limitX.iS .none .none ydc5 ypm5 yan5 ycd5 yct5), ysl5⟩)
    (yc5 : PySem.W.codeIn K ycd5 "TooMany.__init__" = true)
    (yk5 : PySem.W.keepIn K (.ref C5) = true)
    (yh5 : PySem.W.hasDictIn K C5 = true)
    (ec3 : (PySem.W.clsIn K C3).isSome = true)
    (ea3 : PySem.W.findIn K (.ref C3) "__class__" = some (some (.builtin "object.__class__")))
    (em3 : PySem.W.mroIn K C3 (.type "object") = some true)
    (ec4 : (PySem.W.clsIn K C4).isSome = true)
    (ea4 : PySem.W.findIn K (.ref C4) "__class__" = some (some (.builtin "object.__class__")))
    (em4 : PySem.W.mroIn K C4 (.type "object") = some true)
    (ec5 : (PySem.W.clsIn K C5).isSome = true)
    (ea5 : PySem.W.findIn K (.ref C5) "__class__" = some (some (.builtin "object.__class__")))
    (em5 : PySem.W.mroIn K C5 (.type "object") = some true)
    (ki3_InputError : PySem.W.kitOne K (.ref C3) (.ref C0) = some true)
    (ki3_ValueError : PySem.W.kitOne K (.ref C3) (.type "ValueError") = some true)
    (ki4_InputError : PySem.W.kitOne K (.ref C4) (.ref C0) = some true)
    (ki4_ValueError : PySem.W.kitOne K (.ref C4) (.type "ValueError") = some true)
    (ki5_ArithmeticError : PySem.W.kitOne K (.ref C5) (.type "ArithmeticError") = some true)
    (ki5_SizeError : PySem.W.kitOne K (.ref C5) (.ref C1) = some true)
    (v_MOST_ABOARD : PySem.W.nsIn K mainGlobals "MOST_ABOARD" = some (some (.int (4) tk_MOST_ABOARD)))
    (v_MOST_BAGS : PySem.W.nsIn K mainGlobals "MOST_BAGS" = some (some (.int (9) tk_MOST_BAGS)))
    (v_MOST_COST : PySem.W.nsIn K mainGlobals "MOST_COST" = some (some (.int (1000000) tk_MOST_COST)))
    (v_MOST_RIDERS : PySem.W.nsIn K mainGlobals "MOST_RIDERS" = some (some (.int (6) tk_MOST_RIDERS)))
    (v_MOST_STRETCHES : PySem.W.nsIn K mainGlobals "MOST_STRETCHES" = some (some (.int (12) tk_MOST_STRETCHES)))
    (z_ArithmeticError : PySem.W.nsIn K mainGlobals "ArithmeticError" = some none)
    (z_ValueError : PySem.W.nsIn K mainGlobals "ValueError" = some none)
    (z_abs : PySem.W.nsIn K mainGlobals "abs" = some none)
    (z_all : PySem.W.nsIn K mainGlobals "all" = some none)
    (z_any : PySem.W.nsIn K mainGlobals "any" = some none)
    (z_bool : PySem.W.nsIn K mainGlobals "bool" = some none)
    (z_divmod : PySem.W.nsIn K mainGlobals "divmod" = some none)
    (z_enumerate : PySem.W.nsIn K mainGlobals "enumerate" = some none)
    (z_int : PySem.W.nsIn K mainGlobals "int" = some none)
    (z_isinstance : PySem.W.nsIn K mainGlobals "isinstance" = some none)
    (z_len : PySem.W.nsIn K mainGlobals "len" = some none)
    (z_max : PySem.W.nsIn K mainGlobals "max" = some none)
    (z_min : PySem.W.nsIn K mainGlobals "min" = some none)
    (z_range : PySem.W.nsIn K mainGlobals "range" = some none)
    (z_repr : PySem.W.nsIn K mainGlobals "repr" = some none)
    (z_tuple : PySem.W.nsIn K mainGlobals "tuple" = some none)
    (xlt17 : ts.contains (He.tabOf K cq17) = true)
    (xld17 : PySem.W.codeHdIn K cq17 (He.tabOf K cq17) = true) :
    ∃ (A : AD) (fd : FuncData), A.m0 = [] ∧ A.H0 = (fun _ => none) ∧ (∀ q ∈ A.tb, q.1 ∈ ts ∧ ∃ c, PySem.W.codeHdIn K c q.1 = true) ∧ (∀ (s : Shared) (u : Value), BindsTo s fd ⟨[u], []⟩ [("_law_script", u)]) ∧ ∀ base : Heap, K.In base → base.Ns mainGlobals mg → TabsAt ts mg base → FnG l.prog w K mg base (4 * 12) fl fd ["_law_script"] (spM (gcA A l.prog w K mg base) (sem 12 [] F_law) 1) := by
  have ef : fl = f18 := by
    have e := hfa.symm.trans (PySem.W.mg_of X G a18)
    cases e
    rfl
  subst ef
  let p : Pl := ⟨fun j => [f0, f1, f2, f3, f4, f5, f6, f7, f8, f9, f10, f11, f12, f13, f14, f15, f16, f17, fl].getD j 0, fun j => [fdOf dt_is_integer kV0 dc0 pm0 an0 cd0 ct0, fdOf dt_is_between kV1 dc1 pm1 an1 cd1 ct1, fdOf dt_check_costs kV2 dc2 pm2 an2 cd2 ct2, fdOf dt_is_rider kV3 dc3 pm3 an3 cd3 ct3, fdOf dt_check_riders kV4 dc4 pm4 an4 cd4 ct4, fdOf dt_aboard_at kV5 dc5 pm5 an5 cd5 ct5, fdOf dt_is_crowded kV6 dc6 pm6 an6 cd6 ct6, fdOf dt_Ride___init__ kV7 dc7 pm7 an7 cd7 ct7, fdOf dt_Ride___len__ kV8 dc8 pm8 an8 cd8 ct8, fdOf dt_Ride___eq__ kV9 dc9 pm9 an9 cd9 ct9, fdOf dt_Ride___repr__ kV10 dc10 pm10 an10 cd10 ct10, fdOf dt__law_jug kV11 dc11 pm11 an11 cd11 ct11, fdOf dt__law_drop kV12 dc12 pm12 an12 cd12 ct12, fdOf dt__law_one kV13 dc13 pm13 an13 cd13 ct13, fdOf dt__law_outcome kV14 dc14 pm14 an14 cd14 ct14, fdOf dt__law_bad_prices kV15 dc15 pm15 an15 cd15 ct15, fdOf dt__law_bad_folk kV16 dc16 pm16 an16 cd16 ct16, fdOf dt__law_right kV17 dc17 pm17 an17 (.ref cq17) ct17, fdOf dt_law kV18 dc18 pm18 an18 cd18 ct18].getD j (fdOf dt_law .none .none .none none .none .none), [(cq17, He.tabOf K cq17)]⟩
  let pc : Nat → Addr := fun j => [C0, C1, 0, C3, C4, C5, C6].getD j 0
  let ca : Nat → Option Addr := fun i => some (pc i)
  let tb : List (Addr × Str) := [(He.tabOf K cq17, (("_law_right" : Str) ++ ".<locals>." ++ "<lambda>" : Str))]
  let A : AD := ⟨fun i => if i < 19 then some (p.fa i) else none, ca, tb, [], fun _ => none⟩
  have cI6 : ClsI K C6 := ⟨⟨pg6, hd6, po6, sa6⟩, ha6, hn_, htk_, hm6⟩
  have T : Txt ca tb K mg p pc := {
    f_is_integer := ⟨PySem.W.mg_of X G a0, k0⟩
    f_is_between := ⟨PySem.W.mg_of X G a1, k1⟩
    f_check_costs := ⟨PySem.W.mg_of X G a2, k2⟩
    f_is_rider := ⟨PySem.W.mg_of X G a3, k3⟩
    f_check_riders := ⟨PySem.W.mg_of X G a4, k4⟩
    f_aboard_at := ⟨PySem.W.mg_of X G a5, k5⟩
    f_is_crowded := ⟨PySem.W.mg_of X G a6, k6⟩
    f__law_jug := ⟨PySem.W.mg_of X G a11, k11⟩
    f__law_drop := ⟨PySem.W.mg_of X G a12, k12⟩
    f__law_one := ⟨PySem.W.mg_of X G a13, k13⟩
    f__law_outcome := ⟨PySem.W.mg_of X G a14, k14⟩
    f__law_bad_prices := ⟨PySem.W.mg_of X G a15, k15⟩
    f__law_bad_folk := ⟨PySem.W.mg_of X G a16, k16⟩
    f__law_right := ⟨PySem.W.mg_of X G a17, k17⟩
    c_Ride := ⟨PySem.W.mg_of X G aC6, kc6, rfl⟩
    mk_Ride := ⟨mk6, a7, i7, kc6⟩
    y_InvalidCosts := ⟨yf3, { gC := PySem.W.mg_of X G aC3, cls := ⟨yn3, yq3, yN3, yb3, _, ys3, yu3, ya3, yo3, yd3, ym03, ym13, ym23, ym33, ym53, yl3, by kernel_rfl⟩, sa := ysa3, ga := yga3, gg := ygg3, noN := ynf3, iC := yi3, tC := yt3, kC := yk3, exC := bx3, tyC := tx3, hdC := yh3, fn := ⟨_, _, _, _, _, _, _, _, _, _, _, _, _, _, yL3, yc3⟩ }⟩
    yc_InvalidCosts := rfl
    y_InvalidRiders := ⟨yf4, { gC := PySem.W.mg_of X G aC4, cls := ⟨yn4, yq4, yN4, yb4, _, ys4, yu4, ya4, yo4, yd4, ym04, ym14, ym24, ym34, ym54, yl4, by kernel_rfl⟩, sa := ysa4, ga := yga4, gg := ygg4, noN := ynf4, iC := yi4, tC := yt4, kC := yk4, exC := bx4, tyC := tx4, hdC := yh4, fn := ⟨_, _, _, _, _, _, _, _, _, _, _, _, _, _, yL4, yc4⟩ }⟩
    yc_InvalidRiders := rfl
    y_TooMany := ⟨yf5, { gC := PySem.W.mg_of X G aC5, cls := ⟨yn5, yq5, yN5, yb5, _, ys5, yu5, ya5, yo5, yd5, ym05, ym15, ym25, ym35, ym55, yl5, by kernel_rfl⟩, sa := ysa5, ga := yga5, gg := ygg5, noN := ynf5, iC := yi5, tC := yt5, kC := yk5, exC := bx5, tyC := tx5, hdC := yh5, fn := ⟨_, _, _, _, _, _, _, _, _, _, _, _, _, _, yL5, yc5⟩ }⟩
    yc_TooMany := rfl
    e_InvalidCosts := ⟨ec3, yga3, ygg3, bx3, ea3, hn_, htk_, em3⟩
    e_InvalidRiders := ⟨ec4, yga4, ygg4, bx4, ea4, hn_, htk_, em4⟩
    e_TooMany := ⟨ec5, yga5, ygg5, bx5, ea5, hn_, htk_, em5⟩
    ki_InvalidCosts_InputError := ki3_InputError
    ki_InvalidCosts_ValueError := ki3_ValueError
    ki_InvalidRiders_InputError := ki4_InputError
    ki_InvalidRiders_ValueError := ki4_ValueError
    ki_TooMany_ArithmeticError := ki5_ArithmeticError
    ki_TooMany_SizeError := ki5_SizeError
    g_InputError := PySem.W.mg_of X G aC0
    g_SizeError := PySem.W.mg_of X G aC1
    g_InvalidCosts := PySem.W.mg_of X G aC3
    xm_InvalidCosts := (by
    intro k C v hC hv
    cases hC
    by_cases q3 : k = C_InvalidCosts
    · subst q3
      exact (PySem.W.exm_ref bx3 dx3 tx3 sx3_3).trans hv
    by_cases q4 : k = C_InvalidRiders
    · subst q4
      exact (PySem.W.exm_ref bx3 dx3 tx3 sx4_3).trans hv
    by_cases q5 : k = C_TooMany
    · subst q5
      exact (PySem.W.exm_ref bx3 dx3 tx3 sx5_3).trans hv
    simp [tt_InvalidCosts, q3, q4, q5] at hv)
    g_InvalidRiders := PySem.W.mg_of X G aC4
    xm_InvalidRiders := (by
    intro k C v hC hv
    cases hC
    by_cases q3 : k = C_InvalidCosts
    · subst q3
      exact (PySem.W.exm_ref bx4 dx4 tx4 sx3_4).trans hv
    by_cases q4 : k = C_InvalidRiders
    · subst q4
      exact (PySem.W.exm_ref bx4 dx4 tx4 sx4_4).trans hv
    by_cases q5 : k = C_TooMany
    · subst q5
      exact (PySem.W.exm_ref bx4 dx4 tx4 sx5_4).trans hv
    simp [tt_InvalidRiders, q3, q4, q5] at hv)
    g_TooMany := PySem.W.mg_of X G aC5
    xm_TooMany := (by
    intro k C v hC hv
    cases hC
    by_cases q3 : k = C_InvalidCosts
    · subst q3
      exact (PySem.W.exm_ref bx5 dx5 tx5 sx3_5).trans hv
    by_cases q4 : k = C_InvalidRiders
    · subst q4
      exact (PySem.W.exm_ref bx5 dx5 tx5 sx4_5).trans hv
    by_cases q5 : k = C_TooMany
    · subst q5
      exact (PySem.W.exm_ref bx5 dx5 tx5 sx5_5).trans hv
    simp [tt_TooMany, q3, q4, q5] at hv)
    k_MOST_ABOARD := ⟨_, PySem.W.mg_of X G v_MOST_ABOARD, _, rfl⟩
    k_MOST_BAGS := ⟨_, PySem.W.mg_of X G v_MOST_BAGS, _, rfl⟩
    k_MOST_COST := ⟨_, PySem.W.mg_of X G v_MOST_COST, _, rfl⟩
    k_MOST_RIDERS := ⟨_, PySem.W.mg_of X G v_MOST_RIDERS, _, rfl⟩
    k_MOST_STRETCHES := ⟨_, PySem.W.mg_of X G v_MOST_STRETCHES, _, rfl⟩
    b_ArithmeticError := PySem.W.mg_none_of X G z_ArithmeticError
    b_ValueError := PySem.W.mg_none_of X G z_ValueError
    b_abs := PySem.W.mg_none_of X G z_abs
    b_all := PySem.W.mg_none_of X G z_all
    b_any := PySem.W.mg_none_of X G z_any
    b_bool := PySem.W.mg_none_of X G z_bool
    b_divmod := PySem.W.mg_none_of X G z_divmod
    b_enumerate := PySem.W.mg_none_of X G z_enumerate
    b_int := PySem.W.mg_none_of X G z_int
    b_isinstance := PySem.W.mg_none_of X G z_isinstance
    b_len := PySem.W.mg_none_of X G z_len
    b_max := PySem.W.mg_none_of X G z_max
    b_min := PySem.W.mg_none_of X G z_min
    b_range := PySem.W.mg_none_of X G z_range
    b_repr := PySem.W.mg_none_of X G z_repr
    b_tuple := PySem.W.mg_none_of X G z_tuple
    a_costs := (by
    intro e he
    simp only [List.mem_cons, List.not_mem_nil, or_false] at he
    subst he
    intro C hC; cases hC; exact ⟨cI6.cl, na6_costs⟩)
    a_riders := (by
    intro e he
    simp only [List.mem_cons, List.not_mem_nil, or_false] at he
    subst he
    intro C hC; cases hC; exact ⟨cI6.cl, na6_riders⟩)
    a_told := (by
    intro e he
    simp only [List.mem_cons, List.not_mem_nil, or_false] at he
    subst he
    intro C hC; cases hC; exact ⟨cI6.cl, na6_told⟩)
    s_len := (by
    intro e he
    simp only [List.mem_cons, List.not_mem_nil, or_false] at he
    subst he
    intro C hC; cases hC; exact ⟨a8, i8⟩)
    s_repr := (by
    intro e he
    simp only [List.mem_cons, List.not_mem_nil, or_false] at he
    subst he
    intro C hC; cases hC; exact ⟨a10, i10⟩)
    s_eq := (by
    intro e he
    simp only [List.mem_cons, List.not_mem_nil, or_false] at he
    subst he
    intro C hC; cases hC; exact ⟨a9, i9⟩)
    nf_eq := ⟨(by
    intro e he
    simp only [List.mem_cons, List.not_mem_nil, or_false] at he
    subst he
    intro C hC; cases hC; exact cI6), (by
    intro e he
    simp only [List.mem_cons, List.not_mem_nil, or_false] at he
    subst he
    intro C hC; cases hC
    refine ⟨?_, ?_⟩
    · intro n hn
      simp only [bNames, List.mem_cons, List.not_mem_nil, or_false] at hn
      rcases hn with rfl | rfl | rfl | rfl | rfl | rfl
      · exact nf_ty sb6_NoneType
      · exact nf_ty sb6_bool
      · exact nf_ty sb6_int
      · exact nf_ty sb6_str
      · exact nf_ty sb6_tuple
      · exact nf_ty sb6_list
    · exact (by
        intro e he
        simp only [List.mem_cons, List.not_mem_nil, or_false] at he
        subst he
        intro D hD; cases hD; exact nf_self))⟩
    ne_eq := (by
    intro e he
    simp only [List.mem_cons, List.not_mem_nil, or_false] at he
    subst he
    intro C hC; cases hC; exact ⟨ne6, so6_object⟩)
    nb_len := (by
    intro e he
    simp only [List.mem_cons, List.not_mem_nil, or_false] at he
    subst he
    intro C hC; cases hC; exact nb6)
    kt := ⟨(by
    intro e he
    simp only [List.mem_cons, List.not_mem_nil, or_false] at he
    rcases he with rfl | rfl | rfl | rfl | rfl | rfl | rfl
    · intro C hC t ht; cases hC; cases ht; exact kit_own cd_6 ty6 sb6_NoneType (fun z => by cases eq_of_beq z)
    · intro C hC t ht; cases hC; cases ht; exact kit_own cd_6 ty6 sb6_bool (fun z => by cases eq_of_beq z)
    · intro C hC t ht; cases hC; cases ht; exact kit_own cd_6 ty6 sb6_int (fun z => by cases eq_of_beq z)
    · intro C hC t ht; cases hC; cases ht; exact kit_own cd_6 ty6 sb6_str (fun z => by cases eq_of_beq z)
    · intro C hC t ht; cases hC; cases ht; exact kit_own cd_6 ty6 sb6_tuple (fun z => by cases eq_of_beq z)
    · intro C hC t ht; cases hC; cases ht; exact kit_own cd_6 ty6 sb6_list (fun z => by cases eq_of_beq z)
    · intro C hC t ht; cases hC; obtain ⟨D, hD, rfl⟩ := ht; cases hD; exact kit_self
    ), (by
    intro e he
    simp only [List.mem_cons, List.not_mem_nil, or_false] at he
    rcases he with rfl | rfl | rfl | rfl
    · intro C hC; cases hC; exact kit_blt (by decide +kernel) so6_tuple
    · intro C hC; cases hC; exact kit_blt (by decide +kernel) so6_int
    · intro C hC; cases hC; exact kit_blt (by decide +kernel) so6_bool
    · intro C hC; cases hC; exact kit_blt (by decide +kernel) so6_str
    )⟩
    ki := (by
    intro k C hC hk
    have hk2 : k = C_Ride := by
      rcases hk with ⟨e, he, e1⟩ | ⟨e, he, e1⟩
      · simp only [List.mem_cons, List.not_mem_nil, or_false] at he
        rcases he with rfl | rfl | rfl | rfl | rfl | rfl | rfl <;> cases e1 <;> simp
      · simp only [List.mem_cons, List.not_mem_nil, or_false] at he
        rcases he with rfl | rfl | rfl | rfl <;> cases e1 <;> simp
    rcases hk2 with rfl
    · cases hC; exact cI6
    )
    lc__law_right := rfl
    lm__law_right := by simp [p]
    lt__law_right := by simp [p, tb]
    lu__law_right := (by
    intro q hq e
    simp only [tb, List.mem_singleton] at hq
    rw [hq])
    sh_Ride___init___1_riders_costs := ⟨rfl, fun s us ws _ h1 h2 => .of_eq (match us, ws, h1, h2 with | [_], [_, _], _, _ => rfl)⟩ }
  refine ⟨A, p.fd F_law, rfl, rfl, (by
    intro q hq
    simp only [A, tb, List.mem_cons, List.not_mem_nil, or_false] at hq
    rcases hq with rfl
    · exact ⟨List.contains_iff_mem.mp xlt17, _, xld17⟩
    ), fun s u => .of_eq (by kernel_rfl), fun base hb hm hTA => ?_⟩
  have hD : ∀ j d, DT[j]? = some d → DefOk K d (p.fa j) (p.fd j) := by
    intro j d h
    match j, h with
    | 0, h =>
      cases h
      have F : FunD K dt_is_integer.name dt_is_integer.qual (defArgs dt_is_integer.st) (defBody dt_is_integer.st) (defScope dt_is_integer.st) [] [] f0 (fdOf dt_is_integer kV0 dc0 pm0 an0 cd0 ct0) := ⟨⟨_, _, _, _, _, _, _, _, _, _, rfl, l0, c0, .inl ⟨rfl, rfl⟩, .inl rfl⟩, k0⟩
      exact ⟨F, sc_is_integer, F.bindsN fun _ _ _ _ _ _ us hl => match us, hl with | [_], _ => rfl⟩
    | 1, h =>
      cases h
      have F : FunD K dt_is_between.name dt_is_between.qual (defArgs dt_is_between.st) (defBody dt_is_between.st) (defScope dt_is_between.st) [] [] f1 (fdOf dt_is_between kV1 dc1 pm1 an1 cd1 ct1) := ⟨⟨_, _, _, _, _, _, _, _, _, _, rfl, l1, c1, .inl ⟨rfl, rfl⟩, .inl rfl⟩, k1⟩
      exact ⟨F, sc_is_between, F.bindsN fun _ _ _ _ _ _ us hl => match us, hl with | [_, _, _], _ => rfl⟩
    | 2, h =>
      cases h
      have F : FunD K dt_check_costs.name dt_check_costs.qual (defArgs dt_check_costs.st) (defBody dt_check_costs.st) (defScope dt_check_costs.st) [] [] f2 (fdOf dt_check_costs kV2 dc2 pm2 an2 cd2 ct2) := ⟨⟨_, _, _, _, _, _, _, _, _, _, rfl, l2, c2, .inl ⟨rfl, rfl⟩, .inl rfl⟩, k2⟩
      exact ⟨F, sc_check_costs, F.bindsN fun _ _ _ _ _ _ us hl => match us, hl with | [_], _ => rfl⟩
    | 3, h =>
      cases h
      have F : FunD K dt_is_rider.name dt_is_rider.qual (defArgs dt_is_rider.st) (defBody dt_is_rider.st) (defScope dt_is_rider.st) [] [] f3 (fdOf dt_is_rider kV3 dc3 pm3 an3 cd3 ct3) := ⟨⟨_, _, _, _, _, _, _, _, _, _, rfl, l3, c3, .inl ⟨rfl, rfl⟩, .inl rfl⟩, k3⟩
      exact ⟨F, sc_is_rider, F.bindsN fun _ _ _ _ _ _ us hl => match us, hl with | [_, _], _ => rfl⟩
    | 4, h =>
      cases h
      have F : FunD K dt_check_riders.name dt_check_riders.qual (defArgs dt_check_riders.st) (defBody dt_check_riders.st) (defScope dt_check_riders.st) [] [] f4 (fdOf dt_check_riders kV4 dc4 pm4 an4 cd4 ct4) := ⟨⟨_, _, _, _, _, _, _, _, _, _, rfl, l4, c4, .inl ⟨rfl, rfl⟩, .inl rfl⟩, k4⟩
      exact ⟨F, sc_check_riders, F.bindsN fun _ _ _ _ _ _ us hl => match us, hl with | [_, _], _ => rfl⟩
    | 5, h =>
      cases h
      have F : FunD K dt_aboard_at.name dt_aboard_at.qual (defArgs dt_aboard_at.st) (defBody dt_aboard_at.st) (defScope dt_aboard_at.st) [] [] f5 (fdOf dt_aboard_at kV5 dc5 pm5 an5 cd5 ct5) := ⟨⟨_, _, _, _, _, _, _, _, _, _, rfl, l5, c5, .inl ⟨rfl, rfl⟩, .inl rfl⟩, k5⟩
      exact ⟨F, sc_aboard_at, F.bindsN fun _ _ _ _ _ _ us hl => match us, hl with | [_, _], _ => rfl⟩
    | 6, h =>
      cases h
      have F : FunD K dt_is_crowded.name dt_is_crowded.qual (defArgs dt_is_crowded.st) (defBody dt_is_crowded.st) (defScope dt_is_crowded.st) [] [] f6 (fdOf dt_is_crowded kV6 dc6 pm6 an6 cd6 ct6) := ⟨⟨_, _, _, _, _, _, _, _, _, _, rfl, l6, c6, .inl ⟨rfl, rfl⟩, .inl rfl⟩, k6⟩
      exact ⟨F, sc_is_crowded, F.bindsN fun _ _ _ _ _ _ us hl => match us, hl with | [_, _], _ => rfl⟩
    | 7, h =>
      cases h
      have F : FunD K dt_Ride___init__.name dt_Ride___init__.qual (defArgs dt_Ride___init__.st) (defBody dt_Ride___init__.st) (defScope dt_Ride___init__.st) [] [] f7 (fdOf dt_Ride___init__ kV7 dc7 pm7 an7 cd7 ct7) := ⟨⟨_, _, _, _, _, _, _, _, _, _, rfl, l7, c7, .inl ⟨rfl, rfl⟩, .inl rfl⟩, k7⟩
      exact ⟨F, sc_Ride___init__, F.bindsN fun _ _ _ _ _ _ us hl => match us, hl with | [_, _, _], _ => rfl⟩
    | 8, h =>
      cases h
      have F : FunD K dt_Ride___len__.name dt_Ride___len__.qual (defArgs dt_Ride___len__.st) (defBody dt_Ride___len__.st) (defScope dt_Ride___len__.st) [] [] f8 (fdOf dt_Ride___len__ kV8 dc8 pm8 an8 cd8 ct8) := ⟨⟨_, _, _, _, _, _, _, _, _, _, rfl, l8, c8, .inl ⟨rfl, rfl⟩, .inl rfl⟩, k8⟩
      exact ⟨F, sc_Ride___len__, F.bindsN fun _ _ _ _ _ _ us hl => match us, hl with | [_], _ => rfl⟩
    | 9, h =>
      cases h
      have F : FunD K dt_Ride___eq__.name dt_Ride___eq__.qual (defArgs dt_Ride___eq__.st) (defBody dt_Ride___eq__.st) (defScope dt_Ride___eq__.st) [] [] f9 (fdOf dt_Ride___eq__ kV9 dc9 pm9 an9 cd9 ct9) := ⟨⟨_, _, _, _, _, _, _, _, _, _, rfl, l9, c9, .inl ⟨rfl, rfl⟩, .inl rfl⟩, k9⟩
      exact ⟨F, sc_Ride___eq__, F.bindsN fun _ _ _ _ _ _ us hl => match us, hl with | [_, _], _ => rfl⟩
    | 10, h =>
      cases h
      have F : FunD K dt_Ride___repr__.name dt_Ride___repr__.qual (defArgs dt_Ride___repr__.st) (defBody dt_Ride___repr__.st) (defScope dt_Ride___repr__.st) [] [] f10 (fdOf dt_Ride___repr__ kV10 dc10 pm10 an10 cd10 ct10) := ⟨⟨_, _, _, _, _, _, _, _, _, _, rfl, l10, c10, .inl ⟨rfl, rfl⟩, .inl rfl⟩, k10⟩
      exact ⟨F, sc_Ride___repr__, F.bindsN fun _ _ _ _ _ _ us hl => match us, hl with | [_], _ => rfl⟩
    | 11, h =>
      cases h
      have F : FunD K dt__law_jug.name dt__law_jug.qual (defArgs dt__law_jug.st) (defBody dt__law_jug.st) (defScope dt__law_jug.st) [] [] f11 (fdOf dt__law_jug kV11 dc11 pm11 an11 cd11 ct11) := ⟨⟨_, _, _, _, _, _, _, _, _, _, rfl, l11, c11, .inl ⟨rfl, rfl⟩, .inl rfl⟩, k11⟩
      exact ⟨F, sc__law_jug, F.bindsN fun _ _ _ _ _ _ us hl => match us, hl with | [_, _], _ => rfl⟩
    | 12, h =>
      cases h
      have F : FunD K dt__law_drop.name dt__law_drop.qual (defArgs dt__law_drop.st) (defBody dt__law_drop.st) (defScope dt__law_drop.st) [] [] f12 (fdOf dt__law_drop kV12 dc12 pm12 an12 cd12 ct12) := ⟨⟨_, _, _, _, _, _, _, _, _, _, rfl, l12, c12, .inl ⟨rfl, rfl⟩, .inl rfl⟩, k12⟩
      exact ⟨F, sc__law_drop, F.bindsN fun _ _ _ _ _ _ us hl => match us, hl with | [_, _], _ => rfl⟩
    | 13, h =>
      cases h
      have F : FunD K dt__law_one.name dt__law_one.qual (defArgs dt__law_one.st) (defBody dt__law_one.st) (defScope dt__law_one.st) [] [] f13 (fdOf dt__law_one kV13 dc13 pm13 an13 cd13 ct13) := ⟨⟨_, _, _, _, _, _, _, _, _, _, rfl, l13, c13, .inl ⟨rfl, rfl⟩, .inl rfl⟩, k13⟩
      exact ⟨F, sc__law_one, F.bindsN fun _ _ _ _ _ _ us hl => match us, hl with | [_, _], _ => rfl⟩
    | 14, h =>
      cases h
      have F : FunD K dt__law_outcome.name dt__law_outcome.qual (defArgs dt__law_outcome.st) (defBody dt__law_outcome.st) (defScope dt__law_outcome.st) [] [] f14 (fdOf dt__law_outcome kV14 dc14 pm14 an14 cd14 ct14) := ⟨⟨_, _, _, _, _, _, _, _, _, _, rfl, l14, c14, .inl ⟨rfl, rfl⟩, .inl rfl⟩, k14⟩
      exact ⟨F, sc__law_outcome, F.bindsN fun _ _ _ _ _ _ us hl => match us, hl with | [_], _ => rfl⟩
    | 15, h =>
      cases h
      have F : FunD K dt__law_bad_prices.name dt__law_bad_prices.qual (defArgs dt__law_bad_prices.st) (defBody dt__law_bad_prices.st) (defScope dt__law_bad_prices.st) [] [] f15 (fdOf dt__law_bad_prices kV15 dc15 pm15 an15 cd15 ct15) := ⟨⟨_, _, _, _, _, _, _, _, _, _, rfl, l15, c15, .inl ⟨rfl, rfl⟩, .inl rfl⟩, k15⟩
      exact ⟨F, sc__law_bad_prices, F.bindsN fun _ _ _ _ _ _ us hl => match us, hl with | [_], _ => rfl⟩
    | 16, h =>
      cases h
      have F : FunD K dt__law_bad_folk.name dt__law_bad_folk.qual (defArgs dt__law_bad_folk.st) (defBody dt__law_bad_folk.st) (defScope dt__law_bad_folk.st) [] [] f16 (fdOf dt__law_bad_folk kV16 dc16 pm16 an16 cd16 ct16) := ⟨⟨_, _, _, _, _, _, _, _, _, _, rfl, l16, c16, .inl ⟨rfl, rfl⟩, .inl rfl⟩, k16⟩
      exact ⟨F, sc__law_bad_folk, F.bindsN fun _ _ _ _ _ _ us hl => match us, hl with | [_], _ => rfl⟩
    | 17, h =>
      cases h
      have F : FunD K dt__law_right.name dt__law_right.qual (defArgs dt__law_right.st) (defBody dt__law_right.st) (defScope dt__law_right.st) [] [] f17 (fdOf dt__law_right kV17 dc17 pm17 an17 (.ref cq17) ct17) := ⟨⟨_, _, _, _, _, _, _, _, _, _, rfl, l17, c17, .inl ⟨rfl, rfl⟩, .inl rfl⟩, k17⟩
      exact ⟨F, sc__law_right, F.bindsN fun _ _ _ _ _ _ us hl => match us, hl with | [_], _ => rfl⟩
    | 18, h =>
      cases h
      have F : FunD K dt_law.name dt_law.qual (defArgs dt_law.st) (defBody dt_law.st) (defScope dt_law.st) [] [] fl (fdOf dt_law kV18 dc18 pm18 an18 cd18 ct18) := ⟨⟨_, _, _, _, _, _, _, _, _, _, rfl, l18, c18, .inl ⟨rfl, rfl⟩, .inl rfl⟩, k18⟩
      exact ⟨F, sc_law, F.bindsN fun _ _ _ _ _ _ us hl => match us, hl with | [_], _ => rfl⟩
    | _ + 19, h => simp at h
  have hB : ∀ j d, DT[j]? = some d → ∀ (A : AD) (base : Heap) (v : SV) (l2 : Nat) (cdv : Value) (Ar : Around) (outer : List Env) (s : Shared) (H : Hp) (E : XK), A.ca = ca → A.tb = tb → (∀ j, j < DT.length → A.fa j = some (p.fa j)) → (p.fd j).code = cdv → GdL A (cxi d l.prog w K mg base (p.fa j) cdv Ar outer s H E) (fun cls d _ H' => E cls d H') DT p v l2 →
      PMSs A (cxi d l.prog w K mg base (p.fa j) cdv Ar outer s H E) (fun cls d _ H' => E cls d H') (defBody d.st) (den j v) := by
    intro j d h A base v l2 cdv Ar outer s H E hca htb hfa hcv GL
    have T' : Txt A.ca tb K mg p pc := hca.symm ▸ T
    match j, h with
    | 0, h => cases h; exact b_is_integer T' GL
    | 1, h => cases h; exact b_is_between T' GL
    | 2, h => cases h; exact b_check_costs T' GL
    | 3, h => cases h; exact b_is_rider T' GL
    | 4, h => cases h; exact b_check_riders T' GL
    | 5, h => cases h; exact b_aboard_at T' GL
    | 6, h => cases h; exact b_is_crowded T' GL
    | 7, h => cases h; exact b_Ride___init__ T' GL
    | 8, h => cases h; exact b_Ride___len__ T' GL
    | 9, h => cases h; exact b_Ride___eq__ T' GL
    | 10, h => cases h; exact b_Ride___repr__ T' GL
    | 11, h => cases h; exact b__law_jug T' GL
    | 12, h => cases h; exact b__law_drop T' GL
    | 13, h => cases h; exact b__law_one T' GL
    | 14, h => cases h; exact b__law_outcome T' GL
    | 15, h => cases h; exact b__law_bad_prices T' GL
    | 16, h => cases h; exact b__law_bad_folk T' GL
    | 17, h => cases h; exact b__law_right T' htb hcv GL
    | 18, h => cases h; exact b_law T' GL
    | _ + 19, h => simp at h
  have hW : Wd l.prog w K mg DT p ca tb [] A base := by
    refine ⟨hb, hm, (by
    intro q hq
    simp only [p, List.mem_cons, List.not_mem_nil, or_false] at hq
    rcases hq with rfl
    · exact ⟨PySem.W.codeHd_of_K hb xld17, (hTA _ (List.contains_iff_mem.mp xlt17)).1, (hTA _ (List.contains_iff_mem.mp xlt17)).2⟩
    ), rfl, rfl, fun j hj => rfl, fun i a z => ?_, fun i a z => ?_, fun i c f hi h1 => absurd h1 (by simp)⟩
    · have z : (if i < 19 then some (p.fa i) else none) = some a := z
      split at z
      · show i < 1000 + 0; omega
      · cases z
    · have z : (if i < 19 then some (p.fa i) else none) = some a := z
      split at z
      · rename_i hi
        cases z
        have e : DT[i]? = some DT[i] := by simp [hi]
        obtain ⟨oc, od, dV, kV, doc, pm, an, cdv, ct, osl, e1, lk, _, _, _⟩ := (hD i DT[i] e).fn.ex
        exact ⟨oc, od, _, osl, hb _ _ lk⟩
      · cases z
  exact fns_all (by decide) hD hB 12 A base [] hW F_law dt_law rfl
end Kk02

open PySem PySem.W PyProof.Rows in
set_option maxRecDepth 100000 in
set_option maxHeartbeats 0 in
theorem PySem.Challenge.cw_cabshares_k02_rides_refused_holds : PySem.Challenge.rw_cabshares_k02_rides_refused.Holds := by
  w_on; o_law
  refine HeadRun.head_any (r := OpenLaw.row PySem.Challenge.rw_cabshares_k02_rides_refused) (q := Hd02.qv) (H := kmHook Hd02.pre.heap_39 Hd02.as (fun _ => by kernel_rfl) Hd02.ts) (ob := Hd02.ob) (M := 4844) (loose := Hd02.names) (d := HeadRun.topDef Hd02.R.prog 32) (kwd := []) Hd02.ob_eq (by kernel_rfl) (fun s => by kernel_rfl) Hd02.run (by kernel_rfl) (by kernel_rfl) (by kernel_rfl) (by rfl) (by first | assumption | decide +kernel) (by decide +kernel) ⟨rfl, rfl, rfl, rfl, rfl, by decide +kernel⟩ ?hw ?hc
  case hw => w_witness2
  case hc =>
    k_fill
    refine CS.law_end (l := PySem.Challenge.rw_cabshares_k02_rides_refused) (n := 63) (k := 4 * 12) (x := "_law_script") (sem := Kk02.sem 12 [] Kk02.F_law) rfl (by decide) rfl ⟨rfl, by decide, by decide⟩ (fun w h Y => PySem.W.km_in_of Y) (fun w => ?NL) _ (fun w h Y => PySem.W.km_tabs_of Y) (fun w => ?ON) ?F Kk02.law_holds
    case NL => kernel_rfl
    case ON => kernel_rfl
    case F =>
      intro w mg fa h KX G hmg
      refine' Kk02.all_mk KX G hmg ?aC6 ?a0 ?l0 ?c0 ?k0 ?a1 ?l1 ?c1 ?k1 ?a2 ?l2 ?c2 ?k2 ?a3 ?l3 ?c3 ?k3 ?a4 ?l4 ?c4 ?k4 ?a5 ?l5 ?c5 ?k5 ?a6 ?l6 ?c6 ?k6 ?a7 ?i7 ?l7 ?c7 ?k7 ?a8 ?i8 ?l8 ?c8 ?k8 ?a9 ?i9 ?l9 ?c9 ?k9 ?a10 ?i10 ?l10 ?c10 ?k10 ?a11 ?l11 ?c11 ?k11 ?a12 ?l12 ?c12 ?k12 ?a13 ?l13 ?c13 ?k13 ?a14 ?l14 ?c14 ?k14 ?a15 ?l15 ?c15 ?k15 ?a16 ?l16 ?c16 ?k16 ?a17 ?l17 ?c17 ?k17 ?a18 ?l18 ?c18 ?k18 ?pg6 ?hd6 ?po6 ?sa6 ?mk6 ?kc6 ?ha6 ?hm6 ?cd_6 ?ty6 ?sb6_NoneType ?sb6_bool ?sb6_int ?sb6_str ?sb6_tuple ?sb6_list ?so6_tuple ?so6_int ?so6_bool ?so6_str ?so6_object ?ne6 ?nb6 ?na6_costs ?na6_riders ?na6_told ?hn_ ?htk_ ?aC0 ?bx0 ?tx0 ?aC3 ?bx3 ?tx3 ?aC4 ?bx4 ?tx4 ?aC1 ?bx1 ?tx1 ?aC5 ?bx5 ?tx5 ?dx3 ?dx4 ?dx5 ?sx3_3 ?sx3_4 ?sx3_5 ?sx4_3 ?sx4_4 ?sx4_5 ?sx5_3 ?sx5_4 ?sx5_5 ?yl3 ?ysa3 ?yga3 ?ygg3 ?ynf3 ?yi3 ?yt3 ?yL3 ?yc3 ?yk3 ?yh3 ?yl4 ?ysa4 ?yga4 ?ygg4 ?ynf4 ?yi4 ?yt4 ?yL4 ?yc4 ?yk4 ?yh4 ?yl5 ?ysa5 ?yga5 ?ygg5 ?ynf5 ?yi5 ?yt5 ?yL5 ?yc5 ?yk5 ?yh5 ?ec3 ?ea3 ?em3 ?ec4 ?ea4 ?em4 ?ec5 ?ea5 ?em5 ?ki3_InputError ?ki3_ValueError ?ki4_InputError ?ki4_ValueError ?ki5_ArithmeticError ?ki5_SizeError ?v_MOST_ABOARD ?v_MOST_BAGS ?v_MOST_COST ?v_MOST_RIDERS ?v_MOST_STRETCHES ?z_ArithmeticError ?z_ValueError ?z_abs ?z_all ?z_any ?z_bool ?z_divmod ?z_enumerate ?z_int ?z_isinstance ?z_len ?z_max ?z_min ?z_range ?z_repr ?z_tuple ?xlt17 ?xld17
      (case aC6 => k_is)
      (case a0 => k_is)
      (case l0 => k_is)
      (case c0 => k_is)
      (case k0 => k_is)
      (case a1 => k_is)
      (case l1 => k_is)
      (case c1 => k_is)
      (case k1 => k_is)
      (case a2 => k_is)
      (case l2 => k_is)
      (case c2 => k_is)
      (case k2 => k_is)
      (case a3 => k_is)
      (case l3 => k_is)
      (case c3 => k_is)
      (case k3 => k_is)
      (case a4 => k_is)
      (case l4 => k_is)
      (case c4 => k_is)
      (case k4 => k_is)
      (case a5 => k_is)
      (case l5 => k_is)
      (case c5 => k_is)
      (case k5 => k_is)
      (case a6 => k_is)
      (case l6 => k_is)
      (case c6 => k_is)
      (case k6 => k_is)
      (case a7 => k_is)
      (case i7 => k_is)
      (case l7 => k_is)
      (case c7 => k_is)
      (case k7 => k_is)
      (case a8 => k_is)
      (case i8 => k_is)
      (case l8 => k_is)
      (case c8 => k_is)
      (case k8 => k_is)
      (case a9 => k_is)
      (case i9 => k_is)
      (case l9 => k_is)
      (case c9 => k_is)
      (case k9 => k_is)
      (case a10 => k_is)
      (case i10 => k_is)
      (case l10 => k_is)
      (case c10 => k_is)
      (case k10 => k_is)
      (case a11 => k_is)
      (case l11 => k_is)
      (case c11 => k_is)
      (case k11 => k_is)
      (case a12 => k_is)
      (case l12 => k_is)
      (case c12 => k_is)
      (case k12 => k_is)
      (case a13 => k_is)
      (case l13 => k_is)
      (case c13 => k_is)
      (case k13 => k_is)
      (case a14 => k_is)
      (case l14 => k_is)
      (case c14 => k_is)
      (case k14 => k_is)
      (case a15 => k_is)
      (case l15 => k_is)
      (case c15 => k_is)
      (case k15 => k_is)
      (case a16 => k_is)
      (case l16 => k_is)
      (case c16 => k_is)
      (case k16 => k_is)
      (case a17 => k_is)
      (case l17 => k_is)
      (case c17 => k_is)
      (case k17 => k_is)
      (case a18 => k_is)
      (case l18 => k_is)
      (case c18 => k_is)
      (case k18 => k_is)
      (case pg6 => k_is)
      (case hd6 => k_is)
      (case po6 => k_is)
      (case sa6 => k_is)
      (case mk6 => k_is)
      (case kc6 => k_is)
      (case ha6 => k_is)
      (case hm6 => k_is)
      (case cd_6 => k_is)
      (case ty6 => k_is)
      (case sb6_NoneType => k_is)
      (case sb6_bool => k_is)
      (case sb6_int => k_is)
      (case sb6_str => k_is)
      (case sb6_tuple => k_is)
      (case sb6_list => k_is)
      (case so6_tuple => k_is)
      (case so6_int => k_is)
      (case so6_bool => k_is)
      (case so6_str => k_is)
      (case so6_object => k_is)
      (case ne6 => k_is)
      (case nb6 => k_is)
      (case na6_costs => k_is)
      (case na6_riders => k_is)
      (case na6_told => k_is)
      (case hn_ => k_is)
      (case htk_ => k_is)
      (case aC0 => k_is)
      (case bx0 => k_is)
      (case tx0 => k_is)
      (case aC3 => k_is)
      (case bx3 => k_is)
      (case tx3 => k_is)
      (case aC4 => k_is)
      (case bx4 => k_is)
      (case tx4 => k_is)
      (case aC1 => k_is)
      (case bx1 => k_is)
      (case tx1 => k_is)
      (case aC5 => k_is)
      (case bx5 => k_is)
      (case tx5 => k_is)
      (case dx3 => k_is)
      (case dx4 => k_is)
      (case dx5 => k_is)
      (case sx3_3 => first | rfl | k_is)
      (case sx3_4 => first | rfl | k_is)
      (case sx3_5 => first | rfl | k_is)
      (case sx4_3 => first | rfl | k_is)
      (case sx4_4 => first | rfl | k_is)
      (case sx4_5 => first | rfl | k_is)
      (case sx5_3 => first | rfl | k_is)
      (case sx5_4 => first | rfl | k_is)
      (case sx5_5 => first | rfl | k_is)
      (case yl3 => k_is)
      (case ysa3 => k_is)
      (case yga3 => k_is)
      (case ygg3 => k_is)
      (case ynf3 => k_is)
      (case yi3 => k_is)
      (case yt3 => k_is)
      (case yL3 => k_is)
      (case yc3 => k_is)
      (case yk3 => k_is)
      (case yh3 => kernel_rfl)
      (case yl4 => k_is)
      (case ysa4 => k_is)
      (case yga4 => k_is)
      (case ygg4 => k_is)
      (case ynf4 => k_is)
      (case yi4 => k_is)
      (case yt4 => k_is)
      (case yL4 => k_is)
      (case yc4 => k_is)
      (case yk4 => k_is)
      (case yh4 => kernel_rfl)
      (case yl5 => k_is)
      (case ysa5 => k_is)
      (case yga5 => k_is)
      (case ygg5 => k_is)
      (case ynf5 => k_is)
      (case yi5 => k_is)
      (case yt5 => k_is)
      (case yL5 => k_is)
      (case yc5 => k_is)
      (case yk5 => k_is)
      (case yh5 => kernel_rfl)
      (case ec3 => kernel_rfl)
      (case ea3 => k_is)
      (case em3 => kernel_rfl)
      (case ec4 => kernel_rfl)
      (case ea4 => k_is)
      (case em4 => kernel_rfl)
      (case ec5 => kernel_rfl)
      (case ea5 => k_is)
      (case em5 => kernel_rfl)
      (case ki3_InputError => kernel_rfl)
      (case ki3_ValueError => kernel_rfl)
      (case ki4_InputError => kernel_rfl)
      (case ki4_ValueError => kernel_rfl)
      (case ki5_ArithmeticError => kernel_rfl)
      (case ki5_SizeError => kernel_rfl)
      (case v_MOST_ABOARD => k_is)
      (case v_MOST_BAGS => k_is)
      (case v_MOST_COST => k_is)
      (case v_MOST_RIDERS => k_is)
      (case v_MOST_STRETCHES => k_is)
      (case z_ArithmeticError => k_is)
      (case z_ValueError => k_is)
      (case z_abs => k_is)
      (case z_all => k_is)
      (case z_any => k_is)
      (case z_bool => k_is)
      (case z_divmod => k_is)
      (case z_enumerate => k_is)
      (case z_int => k_is)
      (case z_isinstance => k_is)
      (case z_len => k_is)
      (case z_max => k_is)
      (case z_min => k_is)
      (case z_range => k_is)
      (case z_repr => k_is)
      (case z_tuple => k_is)
      (case xlt17 => kernel_rfl)
      (case xld17 => kernel_rfl)
