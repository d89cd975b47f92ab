import PyProof.Rows.All
import Wide.All
import OpenK.AllK
import Wide.FinOn
import HandS.ForMost
import HandS.Exc
import HandS.TryOnly
import HandS.ExcOwn
import HandS.Flow
import HandS.TupAny
import HandS.TupMul
import HandS.Wide
import HandS.Walk
import HandS.IsInst
import HandS.FStr
import HandS.Conv
import HandS.Zip
import KE.GoesNew
import KE.GoesEnum
import KE.GoesZip
import KE.GoesMore
import HandS.Lambda
import HandS.Defaults
import HandS.MakeKw
import PyProof.ReprRoads
import OpenK.KOps
import HandS.RaiseMore
import PyProof.ReprLen
import PyProof.FitsInt
import PyProof.Conv_bool
import HandS.Ends
import PySem.Challenge.RW_cabshares_k01_rides_made
set_option Elab.async false
set_option linter.all false
set_option maxRecDepth 100000
set_option maxHeartbeats 2000000
namespace CS
open PySem PySem.Spec L2

inductive MV where
  | non | bl (b : Bool) | int (i : Int) | str (x : Str) | tup (xs : List MV)
  | ref (i : Nat) | fn (i : Nat) | cl (i : Nat) | ty (n : String)
  deriving Inhabited
inductive MO where
  | lst (xs : List MV) | frz (xs : List MV) | ins (k : Nat) (fs : List (Str × MV))
  deriving Inhabited
abbrev Sto := List MO
abbrev MX := Nat × List (Str × MV)
abbrev R (α : Type) := Option (Except MX α × Sto)
abbrev MEnv := List (Option MV)

def bnd {α β : Type} (r : R α) (f : α → Sto → R β) : R β :=
  match r with
  | none => none
  | some (.error x, st) => some (.error x, st)
  | some (.ok a, st) => f a st
def ret {α : Type} (a : α) (st : Sto) : R α := some (.ok a, st)

structure GC where
  P : Program
  w : World
  K : PySem.W.Frag
  mg : Str → Option Value
  base : Heap
  fa : Nat → Option Addr
  ca : Nat → Option Addr

mutual
inductive RV (c : GC) (m : List Addr) (H : Hp) : MV → V → Prop
  | non : RV c m H .non .non
  | bl (b : Bool) : RV c m H (.bl b) (.bl b)
  | int (i : Int) : RV c m H (.int i) (.int i)
  | str (x : Str) : RV c m H (.str x) (.str x)
  | tup {a : Addr} {xs : List MV} {vs : List V} : SqT c.K H a vs → RVs c m H xs vs → RV c m H (.tup xs) (.ref a)
  | ref {i : Nat} {a : Addr} : m[i]? = some a → RV c m H (.ref i) (.ref a)
  | fn {i : Nat} {a : Addr} : c.fa i = some a → RV c m H (.fn i) (.ref a)
  | cl {i : Nat} {a : Addr} : c.ca i = some a → RV c m H (.cl i) (.ref a)
  | ty (n : String) : RV c m H (.ty n) (.ty n)
inductive RVs (c : GC) (m : List Addr) (H : Hp) : List MV → List V → Prop
  | nil : RVs c m H [] []
  | cons {x : MV} {v : V} {xs : List MV} {vs : List V} : RV c m H x v → RVs c m H xs vs → RVs c m H (x :: xs) (v :: vs)
end
abbrev RF (c : GC) (m : List Addr) (H : Hp) (fs : List (Str × MV)) (gs : List (Str × V)) : Prop :=
  Paired (fun (p : Str × MV) (q : Str × V) => p.1 = q.1 ∧ RV c m H p.2 q.2) fs gs

structure Ext (c : GC) (m : List Addr) (H : Hp) (m' : List Addr) (H' : Hp) : Prop where
  pre : ∃ t, m' = m ++ t
  tup : ∀ b xs, SqT c.K H b xs → SqT c.K H' b xs
  fresh : ∀ a ∈ m', a ∈ m ∨ H a = none
  frame : ∀ b o, H b = some o → b ∉ m → (∀ ps, o ≠ .tbl ps) → H' b = some o
  live : ∀ b, H b ≠ none → H' b ≠ none
theorem Ext.refl {c : GC} {m : List Addr} {H : Hp} : Ext c m H m H := ⟨⟨[], by simp⟩, fun _ _ h => h, fun _ h => .inl h, fun _ _ h _ _ => h, fun _ h => h⟩
theorem Ext.trans {c : GC} {m m1 m2 : List Addr} {H H1 H2 : Hp} (a : Ext c m H m1 H1) (b : Ext c m1 H1 m2 H2) : Ext c m H m2 H2 := by
  have fr : ∀ x ∈ m2, x ∈ m ∨ H x = none := fun x hx => by
    rcases b.fresh x hx with h | h
    · exact a.fresh x h
    · refine .inr ?_
      cases q : H x with
      | none => rfl
      | some o => exact absurd h (a.live x (by rw [q]; simp))
  refine ⟨?_, fun y xs h => b.tup y xs (a.tup y xs h), fr, fun y o h hm ht => b.frame y o (a.frame y o h hm ht) (fun z => ?_) ht, fun y h => b.live y (a.live y h)⟩
  · obtain ⟨t, e1⟩ := a.pre
    obtain ⟨u, e2⟩ := b.pre
    exact ⟨t ++ u, by rw [e2, e1]; simp⟩
  · rcases a.fresh y z with q | q
    · exact hm q
    · rw [h] at q; cases q
theorem Ext.at {c : GC} {m m' : List Addr} {H H' : Hp} (e : Ext c m H m' H') {i : Nat} {a : Addr} (h : m[i]? = some a) : m'[i]? = some a := by
  obtain ⟨t, rfl⟩ := e.pre
  have := (List.getElem?_eq_some_iff.mp h).1
  rw [List.getElem?_append_left this]
  exact h
mutual
theorem RV.mono {c : GC} {m m' : List Addr} {H H' : Hp} (e : Ext c m H m' H') : ∀ {x : MV} {v : V}, RV c m H x v → RV c m' H' x v
  | _, _, .non => .non
  | _, _, .bl b => .bl b
  | _, _, .int i => .int i
  | _, _, .str x => .str x
  | _, _, .tup h r => .tup (e.tup _ _ h) (RVs.mono e r)
  | _, _, .ref h => .ref (e.at h)
  | _, _, .fn h => .fn h
  | _, _, .cl h => .cl h
  | _, _, .ty n => .ty n
theorem RVs.mono {c : GC} {m m' : List Addr} {H H' : Hp} (e : Ext c m H m' H') : ∀ {xs : List MV} {vs : List V}, RVs c m H xs vs → RVs c m' H' xs vs
  | _, _, .nil => .nil
  | _, _, .cons h r => .cons (RV.mono e h) (RVs.mono e r)
end
section
variable {c : GC} {m m' : List Addr} {H H' : Hp}
theorem RF.mono (e : Ext c m H m' H') : ∀ {fs : List (Str × MV)} {gs : List (Str × V)}, RF c m H fs gs → RF c m' H' fs gs
  | _, _, .nil => .nil
  | _, _, .cons h r => .cons ⟨h.1, h.2.mono e⟩ (RF.mono e r)
theorem RVs.length : ∀ {xs : List MV} {vs : List V}, RVs c m H xs vs → xs.length = vs.length
  | _, _, .nil => rfl
  | _, _, .cons _ r => by simp [RVs.length r]
theorem RVs.append : ∀ {xs ys : List MV} {vs us : List V}, RVs c m H xs vs → RVs c m H ys us → RVs c m H (xs ++ ys) (vs ++ us)
  | _, _, _, _, .nil, s => s
  | _, _, _, _, .cons h r, s => .cons h (RVs.append r s)
theorem RVs.get : ∀ {xs : List MV} {vs : List V} {i : Nat} {v : V}, RVs c m H xs vs → vs[i]? = some v → ∃ x, xs[i]? = some x ∧ RV c m H x v
  | _, _, _, _, .nil, e => by simp at e
  | _, _, 0, _, .cons h _, e => by simp at e; subst e; exact ⟨_, by simp, h⟩
  | _, _, i + 1, v, .cons _ r, e => by
    obtain ⟨x, h1, h2⟩ := RVs.get (i := i) (v := v) r (by simpa using e)
    exact ⟨x, by simpa using h1, h2⟩
theorem RVs.get' : ∀ {xs : List MV} {vs : List V} {i : Nat} {x : MV}, RVs c m H xs vs → xs[i]? = some x → ∃ v, vs[i]? = some v ∧ RV c m H x v
  | _, _, _, _, .nil, e => by simp at e
  | _, _, 0, _, .cons h _, e => by simp at e; subst e; exact ⟨_, by simp, h⟩
  | _, _, i + 1, v, .cons _ r, e => by
    obtain ⟨x, h1, h2⟩ := RVs.get' (i := i) (x := v) r (by simpa using e)
    exact ⟨x, by simpa using h1, h2⟩
theorem RVs.set {x : MV} {v : V} (h : RV c m H x v) : ∀ {xs : List MV} {vs : List V} (i : Nat), RVs c m H xs vs → RVs c m H (xs.set i x) (vs.set i v)
  | _, _, _, .nil => .nil
  | _, _, 0, .cons _ r => .cons h r
  | _, _, i + 1, .cons g r => .cons g (RVs.set h i r)
theorem RVs.take : ∀ {xs : List MV} {vs : List V} (n : Nat), RVs c m H xs vs → RVs c m H (xs.take n) (vs.take n)
  | _, _, 0, _ => .nil
  | _, _, _ + 1, .nil => .nil
  | _, _, n + 1, .cons h r => .cons h (RVs.take n r)
theorem RVs.drop : ∀ {xs : List MV} {vs : List V} (n : Nat), RVs c m H xs vs → RVs c m H (xs.drop n) (vs.drop n)
  | _, _, 0, r => r
  | _, _, _ + 1, .nil => .nil
  | _, _, n + 1, .cons _ r => RVs.drop n r
theorem RVs.rep {xs : List MV} {vs : List V} (h : RVs c m H xs vs) : ∀ k : Nat, RVs c m H (List.replicate k xs).flatten (List.replicate k vs).flatten
  | 0 => .nil
  | k + 1 => by
    rw [List.replicate_succ, List.replicate_succ, List.flatten_cons, List.flatten_cons]
    exact h.append (RVs.rep h k)
theorem RVs.reverse : ∀ {xs : List MV} {vs : List V}, RVs c m H xs vs → RVs c m H xs.reverse vs.reverse
  | _, _, .nil => .nil
  | _, _, .cons h r => by
    rw [List.reverse_cons, List.reverse_cons]
    exact (RVs.reverse r).append (.cons h .nil)
theorem RF.look : ∀ {fs : List (Str × MV)} {gs : List (Str × V)} {f : Str} {x : MV}, RF c m H fs gs → fs.lookup f = some x → ∃ v, gs.lookup f = some v ∧ RV c m H x v
  | _, _, _, _, .nil, e => by simp at e
  | (p :: fs), (q :: gs), f, x, .cons h r, e => by
    obtain ⟨p1, p2⟩ := p
    obtain ⟨q1, q2⟩ := q
    obtain ⟨h1, h2⟩ := h
    simp only at h1
    subst h1
    rw [List.lookup_cons] at e ⊢
    cases hf : (f == p1) with
    | true =>
      rw [hf] at e
      simp only at e ⊢
      cases e
      exact ⟨_, rfl, h2⟩
    | false =>
      rw [hf] at e
      simp only at e ⊢
      exact RF.look r e
theorem RF.none : ∀ {fs : List (Str × MV)} {gs : List (Str × V)} {f : Str}, RF c m H fs gs → fs.lookup f = none → gs.lookup f = none
  | _, _, _, .nil, e => by simp
  | (p :: fs), (q :: gs), f, .cons h r, e => by
    obtain ⟨p1, p2⟩ := p
    obtain ⟨q1, q2⟩ := q
    obtain ⟨h1, h2⟩ := h
    simp only at h1
    subst h1
    rw [List.lookup_cons] at e ⊢
    cases hf : (f == p1) with
    | true => rw [hf] at e; cases e
    | false =>
      rw [hf] at e
      simp only at e ⊢
      exact RF.none r e
def putM (f : Str) (v : MV) : List (Str × MV) → List (Str × MV)
  | [] => [(f, v)]
  | (g, x) :: r => if g = f then (g, v) :: r else (g, x) :: putM f v r
theorem RF.put {f : Str} {x : MV} {v : V} (h : RV c m H x v) : ∀ {fs : List (Str × MV)} {gs : List (Str × V)}, RF c m H fs gs → RF c m H (putM f x fs) (putF f v gs)
  | _, _, .nil => .cons ⟨rfl, h⟩ .nil
  | (p :: fs), (q :: gs), .cons g r => by
    obtain ⟨p1, p2⟩ := p
    obtain ⟨q1, q2⟩ := q
    obtain ⟨h1, h2⟩ := g
    simp only at h1
    subst h1
    unfold putM putF
    by_cases e : p1 = f
    · rw [if_pos e, if_pos e]; exact .cons ⟨rfl, h⟩ r
    · rw [if_neg e, if_neg e]; exact .cons ⟨rfl, h2⟩ (RF.put h r)
theorem RF.len : ∀ {fs : List (Str × MV)} {gs : List (Str × V)}, RF c m H fs gs → fs.length = gs.length := fun r => Paired.length r
end

def RO (c : GC) (m : List Addr) (H : Hp) (a : Addr) : MO → Prop
  | .lst xs => ∃ vs, H a = some (.lst vs) ∧ RVs c m H xs vs
  | .frz xs => ∃ o vs, H a = some (.frz o (.lst vs)) ∧ RVs c m H xs vs
  | .ins k fs => ∃ C dx gs, c.ca k = some C ∧ H a = some (.ins C dx gs) ∧ RF c m H fs gs
structure Rel (c : GC) (m : List Addr) (st : Sto) (H : Hp) : Prop where
  len : m.length = st.length
  nd : m.Nodup
  obj : ∀ (i : Nat) (o : MO), st[i]? = some o → ∃ a, m[i]? = some a ∧ RO c m H a o
section
variable {c : GC} {m m' : List Addr} {st : Sto} {H H' : Hp} {a : Addr} {o : MO}
theorem RO.some (r : RO c m H a o) : ∃ u, H a = some u := by
  cases o with
  | lst xs => obtain ⟨vs, h, _⟩ := r; exact ⟨_, h⟩
  | frz xs => obtain ⟨u, vs, h, _⟩ := r; exact ⟨_, h⟩
  | ins k fs => obtain ⟨C, dx, gs, _, h, _⟩ := r; exact ⟨_, h⟩
theorem RO.mono (e : Ext c m H m' H') (r : RO c m H a o) (k : H' a = H a) : RO c m' H' a o := by
  cases o with
  | lst xs => obtain ⟨vs, h, q⟩ := r; exact ⟨vs, k.trans h, q.mono e⟩
  | frz xs => obtain ⟨u, vs, h, q⟩ := r; exact ⟨u, vs, k.trans h, q.mono e⟩
  | ins i fs => obtain ⟨C, dx, gs, h0, h, q⟩ := r; exact ⟨C, dx, gs, h0, k.trans h, RF.mono e q⟩
theorem Rel.there (r : Rel c m st H) {i : Nat} (h : m[i]? = some a) : ∃ u, H a = some u := by
  have hi : i < st.length := by rw [← r.len]; exact (List.getElem?_eq_some_iff.mp h).1
  obtain ⟨b, hb, q⟩ := r.obj i st[i] (by simp [hi])
  rw [h] at hb
  cases hb
  exact q.some
theorem Rel.mem (r : Rel c m st H) (h : a ∈ m) : ∃ u, H a = some u := by
  obtain ⟨i, hi⟩ := List.mem_iff_getElem?.mp h
  exact r.there hi
theorem Ext.same (s : ∀ b o, H b = some o → H' b = some o) : Ext c m H m H' := by
  refine ⟨⟨[], by simp⟩, fun b xs h => ?_, fun _ h => .inl h, fun b o h _ _ => s b o h, fun b h => ?_⟩
  · rcases h with (h | ⟨o, h⟩) | h
    · exact .inl (.inl (s _ _ h))
    · exact .inl (.inr ⟨o, s _ _ h⟩)
    · exact .inr h
  · cases q : H b with
    | none => exact absurd q h
    | some o => rw [s b o q]; simp
theorem Ext.grow {p : Addr} (hp : H p = none) (s : ∀ b o, H b = some o → H' b = some o) : Ext c m H (m ++ [p]) H' := by
  have e : Ext c m H m H' := Ext.same s
  refine ⟨⟨[p], rfl⟩, e.tup, fun a h => ?_, e.frame, e.live⟩
  rcases List.mem_append.mp h with h | h
  · exact .inl h
  · rw [List.mem_singleton] at h
    exact .inr (by rw [h]; exact hp)
theorem Rel.same (r : Rel c m st H) (s : ∀ b o, H b = some o → H' b = some o) : Rel c m st H' := by
  refine ⟨r.len, r.nd, fun i o h => ?_⟩
  obtain ⟨a, ha, q⟩ := r.obj i o h
  obtain ⟨u, hu⟩ := q.some
  exact ⟨a, ha, q.mono (Ext.same s) ((s _ _ hu).trans hu.symm)⟩
theorem upd_keeps {p : Addr} {u : HO} (hp : H p = none) : ∀ b o, H b = some o → upd H p u b = some o := fun b o h => by
  rw [upd_ne (ne_of_none h hp)]; exact h
theorem ext_new {p : Addr} {u : HO} (hp : H p = none) : Ext c m H m (upd H p u) := Ext.same (upd_keeps hp)
theorem Rel.grow (r : Rel c m st H) {p : Addr} (hp : H p = none) (s : ∀ b o, H b = some o → H' b = some o) (new : RO c (m ++ [p]) H' p o) : Rel c (m ++ [p]) (st ++ [o]) H' ∧ Ext c m H (m ++ [p]) H' := by
  have e : Ext c m H (m ++ [p]) H' := Ext.grow hp s
  refine ⟨⟨by simp [r.len], ?_, fun i o' h => ?_⟩, e⟩
  · refine List.nodup_append.mpr ⟨r.nd, by simp, fun x hx y hy => ?_⟩
    obtain ⟨u, hu⟩ := r.mem hx
    simp only [List.mem_singleton] at hy
    subst hy
    rintro rfl
    rw [hp] at hu; cases hu
  · by_cases hi : i < st.length
    · rw [List.getElem?_append_left hi] at h
      obtain ⟨a, ha, q⟩ := r.obj i o' h
      obtain ⟨u, hu⟩ := q.some
      exact ⟨a, e.at ha, q.mono e ((s _ _ hu).trans hu.symm)⟩
    · have hl : i = st.length := by
        have := (List.getElem?_eq_some_iff.mp h).1
        simp at this; omega
      subst hl
      rw [List.getElem?_append_right (Nat.le_refl _)] at h
      simp at h
      subst h
      exact ⟨p, by rw [← r.len]; simp, new⟩
theorem Rel.write (r : Rel c m st H) {i : Nat} {u : HO} {o' : MO} (hi : m[i]? = some a) (hs : st[i]? = some o) (nt : ∀ xs, H a ≠ some (.tup xs)) (nf : ∀ ob xs, H a ≠ some (.frz ob (.tup xs)))
    (new : Ext c m H m (upd H a u) → RO c m (upd H a u) a o') : Rel c m (st.set i o') (upd H a u) ∧ Ext c m H m (upd H a u) := by
  have e : Ext c m H m (upd H a u) := by
    refine ⟨⟨[], by simp⟩, fun b xs h => ?_, fun _ h => .inl h, fun b ob h hm _ => ?_, fun b h => ?_⟩
    · rcases h with (h | ⟨ob, h⟩) | h
      · refine .inl (.inl ?_)
        rw [upd_ne (fun z => by rw [z] at h; exact nt _ h)]; exact h
      · refine .inl (.inr ⟨ob, ?_⟩)
        rw [upd_ne (fun z => by rw [z] at h; exact nf _ _ h)]; exact h
      · exact .inr h
    · rw [upd_ne (fun z => hm (by rw [z]; exact List.mem_of_getElem? hi))]; exact h
    · by_cases z : b = a
      · rw [z, upd_same]; simp
      · rw [upd_ne z]; exact h
  refine ⟨⟨by simp [r.len], r.nd, fun j ob h => ?_⟩, e⟩
  by_cases hj : i = j
  · subst hj
    rw [List.getElem?_set_self (List.getElem?_eq_some_iff.mp hs).1] at h
    cases h
    exact ⟨a, hi, new e⟩
  · rw [List.getElem?_set_ne hj] at h
    obtain ⟨b, hb, q⟩ := r.obj j ob h
    refine ⟨b, hb, q.mono e (upd_ne ?_)⟩
    rintro rfl
    exact hj (by
      obtain ⟨h1, e1⟩ := List.getElem?_eq_some_iff.mp hi
      obtain ⟨h2, e2⟩ := List.getElem?_eq_some_iff.mp hb
      exact (List.getElem_inj r.nd).mp (e1.trans e2.symm))
theorem Rel.lst (r : Rel c m st H) {i : Nat} {xs : List MV} (hs : st[i]? = some (.lst xs)) (hi : m[i]? = some a) : ∃ vs, H a = some (.lst vs) ∧ RVs c m H xs vs := by
  obtain ⟨b, hb, q⟩ := r.obj i _ hs
  rw [hi] at hb; cases hb
  exact q
theorem Rel.frz (r : Rel c m st H) {i : Nat} {xs : List MV} (hs : st[i]? = some (.frz xs)) (hi : m[i]? = some a) : ∃ o vs, H a = some (.frz o (.lst vs)) ∧ RVs c m H xs vs := by
  obtain ⟨b, hb, q⟩ := r.obj i _ hs
  rw [hi] at hb; cases hb
  exact q
theorem Rel.ins (r : Rel c m st H) {i k : Nat} {fs : List (Str × MV)} (hs : st[i]? = some (.ins k fs)) (hi : m[i]? = some a) : ∃ C dx gs, c.ca k = some C ∧ H a = some (.ins C dx gs) ∧ RF c m H fs gs := by
  obtain ⟨b, hb, q⟩ := r.obj i _ hs
  rw [hi] at hb; cases hb
  exact q
theorem Rel.setLst (r : Rel c m st H) {i : Nat} {xs ys : List MV} {us : List V} (hs : st[i]? = some (.lst xs)) (hi : m[i]? = some a) (h : RVs c m H ys us) :
    Rel c m (st.set i (.lst ys)) (upd H a (.lst us)) ∧ Ext c m H m (upd H a (.lst us)) := by
  obtain ⟨vs, h1, _⟩ := r.lst hs hi
  exact r.write hi hs (fun _ z => by rw [h1] at z; cases z) (fun _ _ z => by rw [h1] at z; cases z) fun e => ⟨us, upd_same, h.mono e⟩
def listOf (st : Sto) (i : Nat) : Option (List MV) :=
  match st[i]? with
  | some (.lst xs) => some xs
  | some (.frz xs) => some xs
  | _ => none
theorem Rel.list (r : Rel c m st H) {i : Nat} {xs : List MV} (hs : listOf st i = some xs) (hi : m[i]? = some a) : ∃ vs, SqL c.K H a vs ∧ RVs c m H xs vs := by
  unfold listOf at hs
  split at hs
  · rename_i ys h; cases hs
    obtain ⟨vs, h1, q⟩ := r.lst h hi
    exact ⟨vs, .inl (.inl h1), q⟩
  · rename_i ys h; cases hs
    obtain ⟨o, vs, h1, q⟩ := r.frz h hi
    exact ⟨vs, .inl (.inr ⟨o, h1⟩), q⟩
  · cases hs
end
structure REnv (c : GC) (m : List Addr) (H : Hp) (ρ : MEnv) (σ : St) : Prop where
  len : ρ.length = σ.length
  at_ : ∀ (i : Nat) (x : MV), ρ[i]? = some (some x) → ∃ v, σ[i]? = some (some v) ∧ RV c m H x v
section
variable {c : GC} {m m' : List Addr} {H H' : Hp} {ρ : MEnv} {σ : St}
theorem REnv.mono (r : REnv c m H ρ σ) (e : Ext c m H m' H') : REnv c m' H' ρ σ := ⟨r.len, fun i x h => by
  obtain ⟨v, h1, h2⟩ := r.at_ i x h
  exact ⟨v, h1, h2.mono e⟩⟩
theorem REnv.set (r : REnv c m H ρ σ) {i : Nat} {x : MV} {v : V} (h : RV c m H x v) : REnv c m H (ρ.set i (some x)) (σ.set i (some v)) := by
  refine ⟨by simp [r.len], fun j y hj => ?_⟩
  by_cases e : i = j
  · subst e
    have hl : i < ρ.length := by have := (List.getElem?_eq_some_iff.mp hj).1; simpa using this
    rw [List.getElem?_set_self hl] at hj
    cases hj
    exact ⟨v, List.getElem?_set_self (by rw [← r.len]; exact hl), h⟩
  · rw [List.getElem?_set_ne e] at hj ⊢
    exact r.at_ j y hj
theorem REnv.unset (r : REnv c m H ρ σ) {i : Nat} : REnv c m H (ρ.set i none) (σ.set i none) := by
  refine ⟨by simp [r.len], fun j y hj => ?_⟩
  by_cases e : i = j
  · subst e
    have hl : i < ρ.length := by have := (List.getElem?_eq_some_iff.mp hj).1; simpa using this
    rw [List.getElem?_set_self hl] at hj
    cases hj
  · rw [List.getElem?_set_ne e] at hj ⊢
    exact r.at_ j y hj
end
end CS
namespace CS
open PySem PySem.Spec L2

abbrev DE := MEnv → Sto → R MV
abbrev DB := MEnv → Sto → R Bool
abbrev DA := MEnv → Sto → R (List MV)
inductive Fl where
  | nx | rt (v : MV) | bk | ct | exc (x : MX)
abbrev SR := Option (Fl × MEnv × Sto)
abbrev DS := MEnv → Sto → SR
abbrev Kn (α : Type) := α → Sto → List Addr → Hp → Prop

def RX (c : GC) (m : List Addr) (H : Hp) (x : MX) (cls : Value) (d : Option Addr) : Prop :=
  ∃ C, c.ca x.1 = some C ∧ cls = .ref C ∧ (x.2 = [] ∨ ∃ dd gs, d = some dd ∧ H dd = some (.xd gs) ∧ RF c m H x.2 gs)

def Run (c : GC) (W : WX) (σ : L2.St) (m : List Addr) (H : Hp) {α : Type} (r : R α) (K : Kn α) : Prop :=
  match r with
  | none => False
  | some (.ok a, st) => ∀ m' H', Ext c m H m' H' → Rel c m' st H' → K a st m' H'
  | some (.error x, st) => ∀ m' H' cls d, Ext c m H m' H' → Rel c m' st H' → RX c m' H' x cls d → W cls d σ H'
theorem Run.bnd {c : GC} {W : WX} {σ : L2.St} {m : List Addr} {H : Hp} {α β : Type} {r : R α} {f : α → Sto → R β} {K : Kn β} (h : Run c W σ m H (bnd r f) K) :
    Run c W σ m H r (fun a st m' H' => Run c W σ m' H' (f a st) K) := by
  cases r with
  | none => exact h
  | some p =>
    obtain ⟨e, st⟩ := p
    cases e with
    | error x => exact h
    | ok a =>
      intro m1 H1 e1 r1
      have h : Run c W σ m H (f a st) K := h
      show Run c W σ m1 H1 (f a st) K
      cases q : f a st with
      | none => rw [q] at h; exact h
      | some p =>
        obtain ⟨e2, st2⟩ := p
        rw [q] at h
        cases e2 with
        | error x => exact fun m2 H2 cls d e2 r2 x2 => h m2 H2 cls d (e1.trans e2) r2 x2
        | ok b => exact fun m2 H2 e2 r2 => h m2 H2 (e1.trans e2) r2
theorem Run.ok {c : GC} {W : WX} {σ : L2.St} {m m' : List Addr} {H H' : Hp} {α : Type} {a : α} {st : Sto} {K : Kn α} (h : Run c W σ m H (ret a st) K) (e : Ext c m H m' H') (r : Rel c m' st H') : K a st m' H' := h m' H' e r
theorem Run.imp {c : GC} {W : WX} {σ : L2.St} {m : List Addr} {H : Hp} {α : Type} {r : R α} {K K' : Kn α} (h : Run c W σ m H r K) (k : ∀ a st m' H', Rel c m' st H' → Ext c m H m' H' → K a st m' H' → K' a st m' H') : Run c W σ m H r K' := by
  cases r with
  | none => exact h
  | some p =>
    obtain ⟨e, st⟩ := p
    cases e with
    | error x => exact h
    | ok a => exact fun m1 H1 e1 r1 => k _ _ _ _ r1 e1 (h m1 H1 e1 r1)

structure AD where
  fa : Nat → Option Addr
  ca : Nat → Option Addr
abbrev gc (A : AD) (X : Cx) : GC := ⟨X.prog, X.w, X.K, X.mg, X.base, A.fa, A.ca⟩

def kV (c : GC) (Q : VK) : Kn MV := fun v _ m' H' => ∀ u, RV c m' H' v u → Q u H'
def tM (c : GC) (W : WX) (f : DE) : TE := fun σ H Q => ∃ m ρ st, Rel c m st H ∧ REnv c m H ρ σ ∧ Run c W σ m H (f ρ st) (kV c Q)
def tMB (c : GC) (W : WX) (f : DB) : TT := fun σ H Q => ∃ m ρ st, Rel c m st H ∧ REnv c m H ρ σ ∧ Run c W σ m H (f ρ st) (fun b _ _ H' => Q b H')
def tMA (c : GC) (W : WX) (f : DA) : TA := fun σ H Q => ∃ m ρ st, Rel c m st H ∧ REnv c m H ρ σ ∧ Run c W σ m H (f ρ st) (fun xs _ m' H' => ∀ us, RVs c m' H' xs us → Q us H')
def SRun (c : GC) (W : WX) (D : Ends) (m : List Addr) (H : Hp) : SR → Prop
  | none => False
  | some (.nx, ρ, st) => ∀ m' H' σ', Ext c m H m' H' → Rel c m' st H' → REnv c m' H' ρ σ' → D.nx σ' H'
  | some (.rt v, _, st) => ∀ m' H' u, Ext c m H m' H' → Rel c m' st H' → RV c m' H' v u → D.rt u H'
  | some (.bk, ρ, st) => ∀ m' H' σ', Ext c m H m' H' → Rel c m' st H' → REnv c m' H' ρ σ' → D.bk σ' H'
  | some (.ct, ρ, st) => ∀ m' H' σ', Ext c m H m' H' → Rel c m' st H' → REnv c m' H' ρ σ' → D.ct σ' H'
  | some (.exc x, ρ, st) => ∀ m' H' σ' cls d, Ext c m H m' H' → Rel c m' st H' → REnv c m' H' ρ σ' → RX c m' H' x cls d → W cls d σ' H'
def tMS (c : GC) (W : WX) (f : DS) : TS := fun D σ H => ∃ m ρ st, Rel c m st H ∧ REnv c m H ρ σ ∧ SRun c W D m H (f ρ st)

abbrev PM (A : AD) (X : Cx) (W : WX) (e : Expr) (f : DE) : Prop := PE X e (tM (gc A X) W f)
abbrev PMT (A : AD) (X : Cx) (W : WX) (e : Expr) (f : DB) : Prop := PT X e (tMB (gc A X) W f)
abbrev PMA (A : AD) (X : Cx) (W : WX) (es : List Expr) (f : DA) : Prop := PA X es (tMA (gc A X) W f)
abbrev PMS (A : AD) (X : Cx) (W : WX) (s : Stmt) (f : DS) : Prop := PS X s (tMS (gc A X) W f)
abbrev PMSs (A : AD) (X : Cx) (W : WX) (s : List Stmt) (f : DS) : Prop := PSs X s (tMS (gc A X) W f)

theorem _root_.L2.PE.imp {X : Cx} {e : Expr} {t t' : TE} (h : PE X e t) (q : ∀ σ H Q, t' σ H Q → t σ H Q) : PE X e t' := ⟨fun pins s σ H Q I w => h.run pins s σ H Q I (q _ _ _ w)⟩
theorem _root_.L2.PT.imp {X : Cx} {e : Expr} {t t' : TT} (h : PT X e t) (q : ∀ σ H Q, t' σ H Q → t σ H Q) : PT X e t' := ⟨fun pins s σ H Q I w => h.run pins s σ H Q I (q _ _ _ w)⟩
theorem _root_.L2.PW.imp {X : Cx} {e : Expr} {t t' : TT} (h : PW X e t) (q : ∀ σ H Q, t' σ H Q → t σ H Q) : PW X e t' := ⟨fun wh pins s σ H Q I w => h.run wh pins s σ H Q I (q _ _ _ w)⟩
theorem _root_.L2.PA.imp {X : Cx} {e : List Expr} {t t' : TA} (h : PA X e t) (q : ∀ σ H Q, t' σ H Q → t σ H Q) : PA X e t' := ⟨fun pos pins s σ H Q I w => h.run pos pins s σ H Q I (q _ _ _ w)⟩
theorem _root_.L2.PS.imp {X : Cx} {e : Stmt} {t t' : TS} (h : PS X e t) (q : ∀ D σ H, t' D σ H → t D σ H) : PS X e t' := ⟨fun pins s σ H D I w => h.run pins s σ H D I (q _ _ _ w)⟩
theorem _root_.L2.PSs.imp {X : Cx} {e : List Stmt} {t t' : TS} (h : PSs X e t) (q : ∀ D σ H, t' D σ H → t D σ H) : PSs X e t' := ⟨fun pins s σ H D I w => h.run pins s σ H D I (q _ _ _ w)⟩

section
variable {A : AD} {X : Cx} {W : WX} {e a b : Expr} {f fa fb : DE} {σ : L2.St} {H : Hp} {m : List Addr} {ρ : MEnv} {st : Sto}
theorem tM.go {c : GC} {Q : VK} (r : Rel c m st H) (v : REnv c m H ρ σ) (k : Run c W σ m H (f ρ st) (kV c Q)) : tM c W f σ H Q := ⟨m, ρ, st, r, v, k⟩
theorem tM.then {c : GC} {g : MV → Sto → R MV} {K : Kn MV} {Q : VK} (r : Rel c m st H) (v : REnv c m H ρ σ) (k : Run c W σ m H (CS.bnd (f ρ st) g) K)
    (h : ∀ x u st' m' H', Rel c m' st' H' → Ext c m H m' H' → REnv c m' H' ρ σ → RV c m' H' x u → Run c W σ m' H' (g x st') K → Q u H') : tM c W f σ H Q :=
  ⟨m, ρ, st, r, v, k.bnd.imp fun x st' m' H' r' e' q u hu => h x u st' m' H' r' e' (v.mono e') hu q⟩
theorem tM.thenG {α : Type} {c : GC} {g : MV → Sto → R α} {K : Kn α} {Q : VK} (r : Rel c m st H) (v : REnv c m H ρ σ) (k : Run c W σ m H (CS.bnd (f ρ st) g) K)
    (h : ∀ x u st' m' H', Rel c m' st' H' → Ext c m H m' H' → REnv c m' H' ρ σ → RV c m' H' x u → Run c W σ m' H' (g x st') K → Q u H') : tM c W f σ H Q :=
  ⟨m, ρ, st, r, v, k.bnd.imp fun x st' m' H' r' e' q u hu => h x u st' m' H' r' e' (v.mono e') hu q⟩
theorem tMB.thenG {α : Type} {c : GC} {f : DB} {g : Bool → Sto → R α} {K : Kn α} {Q : Bool → Hp → Prop} (r : Rel c m st H) (v : REnv c m H ρ σ) (k : Run c W σ m H (CS.bnd (f ρ st) g) K)
    (h : ∀ x st' m' H', Rel c m' st' H' → Ext c m H m' H' → REnv c m' H' ρ σ → Run c W σ m' H' (g x st') K → Q x H') : tMB c W f σ H Q :=
  ⟨m, ρ, st, r, v, k.bnd.imp fun x st' m' H' r' e' q => h x st' m' H' r' e' (v.mono e') q⟩
theorem tMA.thenG {α : Type} {c : GC} {f : DA} {g : List MV → Sto → R α} {K : Kn α} {Q : List V → Hp → Prop} (r : Rel c m st H) (v : REnv c m H ρ σ) (k : Run c W σ m H (CS.bnd (f ρ st) g) K)
    (h : ∀ x u st' m' H', Rel c m' st' H' → Ext c m H m' H' → REnv c m' H' ρ σ → RVs c m' H' x u → Run c W σ m' H' (g x st') K → Q u H') : tMA c W f σ H Q :=
  ⟨m, ρ, st, r, v, k.bnd.imp fun x st' m' H' r' e' q u hu => h x u st' m' H' r' e' (v.mono e') hu q⟩

def eVar (i : Nat) : DE := fun ρ st => match ρ[i]? with | some (some v) => ret v st | _ => none
def eC (v : MV) : DE := fun _ st => ret v st
theorem pm_var {i : Nat} {x : Str} {pos : Pos} (hN : X.N[i]? = some x) (hv : Vis X.env.scope x) (hd : (x == ("__debug__" : Str)) = false) (hcd : (x == ("__classdict__" : Str)) = false) : PM A X W (.Name x pos) (eVar i) := by
  refine (pe_var hN hv hd hcd).imp fun σ H Q ⟨m, ρ, st, r, v, k⟩ => ?_
  unfold eVar at k
  split at k
  · rename_i y hy
    obtain ⟨u, hu, q⟩ := v.at_ i y hy
    exact ⟨u, hu, k.ok .refl r u q⟩
  · exact k.elim
theorem pm_const {v : MV} {u : V} (h : PE X e (tC u)) (q : ∀ m H, RV (gc A X) m H v u) : PM A X W e (eC v) :=
  h.imp fun σ H Q ⟨m, ρ, st, r, w, k⟩ => k.ok .refl r u (q m H)
def OpM (A : AD) (X : Cx) (W : WX) (f : Value → Value → Sem Value) (g : MV → MV → Sto → R MV) : Prop :=
  ∃ r : R2, OpR X f r ∧ ∀ (m : List Addr) (st : Sto) (σ : L2.St) (H : Hp) (x y : MV) (u v : V) (Q : VK), Rel (gc A X) m st H → RV (gc A X) m H x u → RV (gc A X) m H y v → Run (gc A X) W σ m H (g x y st) (kV (gc A X) Q) → r u v H Q
def eOp (g : MV → MV → Sto → R MV) (fa fb : DE) : DE := fun ρ st => bnd (fa ρ st) fun x st1 => bnd (fb ρ st1) fun y st2 => g x y st2
theorem tOp_of {c : GC} {r : R2} {g : MV → MV → Sto → R MV} (hr : ∀ (m : List Addr) (st : Sto) (σ : L2.St) (H : Hp) (x y : MV) (u v : V) (Q : VK), Rel c m st H → RV c m H x u → RV c m H y v → Run c W σ m H (g x y st) (kV c Q) → r u v H Q)
    {Q : VK} (h : tM c W (eOp g fa fb) σ H Q) : tOp r (tM c W fa) (tM c W fb) σ H Q := by
  obtain ⟨m, ρ, st, rr, v, k⟩ := h
  refine tM.then rr v k fun x u st1 m1 H1 r1 e1 v1 hu k1 => ?_
  refine tM.then r1 v1 k1 fun y w st2 m2 H2 r2 e2 v2 hw k2 => ?_
  exact hr m2 st2 σ H2 x y u w Q r2 (hu.mono e2) hw k2
theorem pm_bin {op : Operator} {g : MV → MV → Sto → R MV} {pos : Pos} (h : OpM A X W (binaryOp op) g) (ha : PM A X W a fa) (hb : PM A X W b fb) : PM A X W (.BinOp a op b pos) (eOp g fa fb) := by
  obtain ⟨r, ho, hr⟩ := h
  exact (pe_op ho ha hb).imp fun σ H Q q => tOp_of hr q
theorem pm_cmp {op : CmpOp} {g : MV → MV → Sto → R MV} {pos : Pos} (h : OpM A X W (compareOp op) g) (ha : PM A X W a fa) (hb : PM A X W b fb) (hm : behindInMarks op b = false) : PM A X W (.Compare a [op] [b] pos) (eOp g fa fb) := by
  obtain ⟨r, ho, hr⟩ := h
  exact (pe_cmpR ho ha hb hm).imp fun σ H Q q => tOp_of hr q
def asB (f : DE) : DB := fun ρ st => bnd (f ρ st) fun x st1 => match x with | .bl k => ret k st1 | _ => none
theorem tTest_of {c : GC} {t : TE} {Q : Bool → Hp → Prop} (ht : ∀ Q, tM c W f σ H Q → t σ H Q) (h : tMB c W (asB f) σ H Q) : tTest t σ H Q := by
  obtain ⟨m, ρ, st, r, v, k⟩ := h
  refine ht _ (tM.thenG r v k fun x u st1 m1 H1 r1 e1 v1 hu k1 => ?_)
  cases x with
  | bl k =>
    cases hu
    exact ⟨_, rfl, Run.ok k1 .refl r1⟩
  | _ => exact k1.elim
theorem pmt_cmp {op : CmpOp} {g : MV → MV → Sto → R MV} {pos : Pos} (h : OpM A X W (compareOp op) g) (ha : PM A X W a fa) (hb : PM A X W b fb) (hm : behindInMarks op b = false) : PMT A X W (.Compare a [op] [b] pos) (asB (eOp g fa fb)) := by
  obtain ⟨r, ho, hr⟩ := h
  exact (pt_cmpR ho ha hb hm).imp fun σ H Q q => tTest_of (fun Q q => tOp_of hr q) q
def eCh (g g' : MV → MV → Sto → R MV) (fa fb fc : DE) : DE := fun ρ st => bnd (fa ρ st) fun x st1 => bnd (fb ρ st1) fun y st2 => bnd (g x y st2) fun z st3 =>
  match z with
  | .bl true => bnd (fc ρ st3) fun w st4 => g' y w st4
  | .bl false => ret (.bl false) st3
  | _ => none
theorem tChain_of {c : GC} {r r' : R2} {g g' : MV → MV → Sto → R MV} {fc : DE} (hr : ∀ (m : List Addr) (st : Sto) (σ : L2.St) (H : Hp) (x y : MV) (u v : V) (Q : VK), Rel c m st H → RV c m H x u → RV c m H y v → Run c W σ m H (g x y st) (kV c Q) → r u v H Q)
    (hr' : ∀ (m : List Addr) (st : Sto) (σ : L2.St) (H : Hp) (x y : MV) (u v : V) (Q : VK), Rel c m st H → RV c m H x u → RV c m H y v → Run c W σ m H (g' x y st) (kV c Q) → r' u v H Q)
    {Q : VK} (h : tM c W (eCh g g' fa fb fc) σ H Q) : tChain r r' (tM c W fa) (tM c W fb) (tM c W fc) σ H Q := by
  obtain ⟨m, ρ, st, rr, v, k⟩ := h
  refine tM.then rr v k fun x u st1 m1 H1 r1 e1 v1 hu k1 => ?_
  refine tM.then r1 v1 k1 fun y w st2 m2 H2 r2 e2 v2 hw k2 => ?_
  refine hr m2 st2 σ H2 x y u w _ r2 (hu.mono e2) hw (k2.bnd.imp fun z st3 m3 H3 r3 e3 k3 uz hz => ?_)
  cases z with
  | bl kk =>
    cases hz
    refine ⟨kk, rfl, ?_⟩
    cases kk with
    | true =>
      rw [if_pos rfl]
      refine tM.then r3 (v2.mono e3) k3 fun w' u' st4 m4 H4 r4 e4 v4 hw' k4 => ?_
      exact hr' m4 st4 σ H4 y w' w u' Q r4 (hw.mono (e3.trans e4)) hw' k4
    | false =>
      rw [if_neg Bool.false_ne_true]
      exact Run.ok k3 .refl r3 _ (.bl false)
  | _ => exact k3.elim
theorem pm_chain {op op' : CmpOp} {g g' : MV → MV → Sto → R MV} {c : Expr} {fc : DE} {pos : Pos} (h : OpM A X W (compareOp op) g) (h' : OpM A X W (compareOp op') g') (ha : PM A X W a fa) (hb : PM A X W b fb) (hc : PM A X W c fc)
    (hm : lastMarks [op, op'] [b, c] = false) : PM A X W (.Compare a [op, op'] [b, c] pos) (eCh g g' fa fb fc) := by
  obtain ⟨r, ho, hr⟩ := h
  obtain ⟨r', ho', hr'⟩ := h'
  exact (pe_chain ho ho' ha hb hc hm).imp fun σ H Q q => tChain_of hr hr' q
theorem pmt_chain {op op' : CmpOp} {g g' : MV → MV → Sto → R MV} {c : Expr} {fc : DE} {pos : Pos} (h : OpM A X W (compareOp op) g) (h' : OpM A X W (compareOp op') g') (ha : PM A X W a fa) (hb : PM A X W b fb) (hc : PM A X W c fc)
    (hm : lastMarks [op, op'] [b, c] = false) : PMT A X W (.Compare a [op, op'] [b, c] pos) (asB (eCh g g' fa fb fc)) := by
  obtain ⟨r, ho, hr⟩ := h
  obtain ⟨r', ho', hr'⟩ := h'
  exact (pt_chain ho ho' ha hb hc hm).imp fun σ H Q q => tTest_of (fun Q q => tChain_of hr hr' q) q
def UnM (A : AD) (X : Cx) (W : WX) (f : Value → Sem Value) (g : MV → Sto → R MV) : Prop :=
  ∃ r : V → Hp → VK → Prop, UnR X f r ∧ ∀ (m : List Addr) (st : Sto) (σ : L2.St) (H : Hp) (x : MV) (u : V) (Q : VK), Rel (gc A X) m st H → RV (gc A X) m H x u → Run (gc A X) W σ m H (g x st) (kV (gc A X) Q) → r u H Q
def eUn (g : MV → Sto → R MV) (fa : DE) : DE := fun ρ st => bnd (fa ρ st) fun x st1 => g x st1
theorem pm_un {op : UnaryOp} {g : MV → Sto → R MV} {pos : Pos} (h : UnM A X W (unaryOp op) g) (ha : PM A X W a fa) : PM A X W (.UnaryOp op a pos) (eUn g fa) := by
  obtain ⟨r, ho, hr⟩ := h
  refine (pe_un ho ha).imp fun σ H Q ⟨m, ρ, st, rr, v, k⟩ => ?_
  exact tM.then rr v k fun x u st1 m1 H1 r1 e1 v1 hu k1 => hr m1 st1 σ H1 x u Q r1 hu k1

def truM (x : MV) (st : Sto) : Option Bool :=
  match x with
  | .non => some false
  | .bl k => some k
  | .int i => some (i != 0)
  | .str y => if y.length ≤ sizeLine then some ((y.length : Int) != 0) else none
  | .tup xs => some (!xs.isEmpty)
  | .ref i => (listOf st i).map fun xs => !xs.isEmpty
  | _ => none
theorem isEmpty_rvs {c : GC} {xs : List MV} {vs : List V} (r : RVs c m H xs vs) : (!vs.isEmpty) = !xs.isEmpty := by
  cases r <;> rfl
theorem truM_ok {c : GC} {x : MV} {u : V} {k : Bool} (r : Rel c m st H) (h : RV c m H x u) (e : truM x st = some k) : TruV c.K u H k := by
  cases h with
  | non => exact (Option.some.inj e).symm
  | bl b => exact (Option.some.inj e).symm
  | int i => exact (Option.some.inj e).symm
  | str y =>
    unfold truM at e
    simp only at e
    split at e
    · rename_i hl
      exact ⟨hl, (Option.some.inj e).symm⟩
    · cases e
  | @tup a xs vs hs hv => exact .inr (.inl ⟨vs, hs, by rw [isEmpty_rvs hv]; exact (Option.some.inj e).symm⟩)
  | @ref i a hi =>
    unfold truM at e
    simp only at e
    cases q : listOf st i with
    | none => rw [q] at e; cases e
    | some xs =>
      rw [q] at e
      obtain ⟨vs, h1, h2⟩ := r.list q hi
      exact .inl ⟨vs, h1, by rw [isEmpty_rvs h2]; exact (Option.some.inj e).symm⟩
  | fn => cases e
  | cl => cases e
  | ty => cases e
def bTru (f : DE) : DB := fun ρ st => bnd (f ρ st) fun x st1 => match truM x st1 with | some k => ret k st1 | none => none
theorem tru_of {c : GC} {Q : Bool → Hp → Prop} (h : tMB c W (bTru f) σ H Q) : tM c W f σ H (fun x H' => ∃ k, TruV c.K x H' k ∧ Q k H') := by
  obtain ⟨m, ρ, st, r, v, k⟩ := h
  refine tM.thenG r v k fun x u st1 m1 H1 r1 e1 v1 hu k1 => ?_
  cases q : truM x st1 with
  | none => simp only [q] at k1; exact k1.elim
  | some kk =>
    simp only [q] at k1
    exact ⟨kk, truM_ok r1 hu q, Run.ok k1 .refl r1⟩
theorem pmt_truth (ha : PM A X W e f) (he : ∀ whole, isTrue e X.env whole = (do let v ← whole; standAt e.pos; holding [v] (truthy v))) : PMT A X W e (bTru f) :=
  (pt_truth ha he).imp fun σ H Q q => tru_of q
end
section
variable {A : AD} {X : Cx} {W : WX} {a b : Expr} {rest : List Expr} {p q : DB} {fa fb : DE} {pos : Pos} {σ : L2.St} {H : Hp}
abbrev PMW (A : AD) (X : Cx) (W : WX) (e : Expr) (f : DB) : Prop := PW X e (tMB (gc A X) W f)
def bAnd (p q : DB) : DB := fun ρ st => bnd (p ρ st) fun k st1 => if k then q ρ st1 else ret false st1
def bOr (p q : DB) : DB := fun ρ st => bnd (p ρ st) fun k st1 => if k then ret true st1 else q ρ st1
def bNot (p : DB) : DB := fun ρ st => bnd (p ρ st) fun k st1 => ret (!k) st1
theorem pmw_and1 (ha : PMT A X W a p) : PMW A X W (.BoolOp .And [a] pos) p := pw_and1 ha
theorem pmw_or1 (ha : PMT A X W a p) : PMW A X W (.BoolOp .Or [a] pos) p := pw_or1 ha
theorem pmw_and (ha : PMT A X W a p) (hb : PMW A X W (.BoolOp .And (b :: rest) pos) q) : PMW A X W (.BoolOp .And (a :: b :: rest) pos) (bAnd p q) := by
  refine (pw_and ha hb).imp fun σ H Q ⟨m, ρ, st, r, v, k⟩ => ?_
  refine tMB.thenG r v k fun x st1 m1 H1 r1 e1 v1 k1 => ?_
  cases x with
  | true => rw [if_pos rfl]; exact ⟨m1, ρ, st1, r1, v1, k1⟩
  | false => rw [if_neg Bool.false_ne_true]; exact Run.ok k1 .refl r1
theorem pmw_or (ha : PMT A X W a p) (hb : PMW A X W (.BoolOp .Or (b :: rest) pos) q) : PMW A X W (.BoolOp .Or (a :: b :: rest) pos) (bOr p q) := by
  refine (pw_or ha hb).imp fun σ H Q ⟨m, ρ, st, r, v, k⟩ => ?_
  refine tMB.thenG r v k fun x st1 m1 H1 r1 e1 v1 k1 => ?_
  cases x with
  | true => rw [if_pos rfl]; exact Run.ok k1 .refl r1
  | false => rw [if_neg Bool.false_ne_true]; exact ⟨m1, ρ, st1, r1, v1, k1⟩
theorem pmt_not (ha : PMT A X W a p) : PMT A X W (.UnaryOp .Not a pos) (bNot p) := by
  refine (pt_not ha).imp fun σ H Q ⟨m, ρ, st, r, v, k⟩ => ?_
  exact tMB.thenG r v k fun x st1 m1 H1 r1 e1 v1 k1 => Run.ok k1 .refl r1
def eAnd (fa fb : DE) : DE := fun ρ st => bnd (fa ρ st) fun x st1 => match truM x st1 with | some true => fb ρ st1 | some false => ret x st1 | none => none
def eOr (fa fb : DE) : DE := fun ρ st => bnd (fa ρ st) fun x st1 => match truM x st1 with | some true => ret x st1 | some false => fb ρ st1 | none => none
def eNot (fa : DE) : DE := fun ρ st => bnd (fa ρ st) fun x st1 => match truM x st1 with | some k => ret (.bl (!k)) st1 | none => none
def eIf (p : DB) (fa fb : DE) : DE := fun ρ st => bnd (p ρ st) fun k st1 => if k then fa ρ st1 else fb ρ st1
theorem pm_one {op : BoolOp} (ha : PM A X W a fa) : PM A X W (.BoolOp op [a] pos) fa := pe_one ha
theorem pm_and (ha : PM A X W a fa) (hb : PM A X W (.BoolOp .And (b :: rest) pos) fb) : PM A X W (.BoolOp .And (a :: b :: rest) pos) (eAnd fa fb) := by
  refine (pe_andT ha hb).imp fun σ H Q ⟨m, ρ, st, r, v, k⟩ => ?_
  refine tM.then r v k fun x u st1 m1 H1 r1 e1 v1 hu k1 => ?_
  cases q : truM x st1 with
  | none => simp only [q] at k1; exact k1.elim
  | some kk =>
    simp only [q] at k1
    refine ⟨kk, truM_ok r1 hu q, ?_⟩
    cases kk with
    | true => rw [if_pos rfl]; exact ⟨m1, ρ, st1, r1, v1, k1⟩
    | false => rw [if_neg Bool.false_ne_true]; exact Run.ok k1 .refl r1 u hu
theorem pm_or (ha : PM A X W a fa) (hb : PM A X W (.BoolOp .Or (b :: rest) pos) fb) : PM A X W (.BoolOp .Or (a :: b :: rest) pos) (eOr fa fb) := by
  refine (pe_orT ha hb).imp fun σ H Q ⟨m, ρ, st, r, v, k⟩ => ?_
  refine tM.then r v k fun x u st1 m1 H1 r1 e1 v1 hu k1 => ?_
  cases q : truM x st1 with
  | none => simp only [q] at k1; exact k1.elim
  | some kk =>
    simp only [q] at k1
    refine ⟨kk, truM_ok r1 hu q, ?_⟩
    cases kk with
    | true => rw [if_pos rfl]; exact Run.ok k1 .refl r1 u hu
    | false => rw [if_neg Bool.false_ne_true]; exact ⟨m1, ρ, st1, r1, v1, k1⟩
theorem pm_not (ha : PM A X W a fa) : PM A X W (.UnaryOp .Not a pos) (eNot fa) := by
  refine (pe_notT ha).imp fun σ H Q ⟨m, ρ, st, r, v, k⟩ => ?_
  refine tM.then r v k fun x u st1 m1 H1 r1 e1 v1 hu k1 => ?_
  cases q : truM x st1 with
  | none => simp only [q] at k1; exact k1.elim
  | some kk =>
    simp only [q] at k1
    exact ⟨kk, truM_ok r1 hu q, Run.ok k1 .refl r1 _ (.bl _)⟩
theorem pm_if {t : Expr} (hc : PMT A X W t p) (ha : PM A X W a fa) (hb : PM A X W b fb) : PM A X W (.IfExp t a b pos) (eIf p fa fb) := by
  refine (pe_ifExp hc ha hb).imp fun σ H Q ⟨m, ρ, st, r, v, k⟩ => ?_
  refine tMB.thenG r v k fun x st1 m1 H1 r1 e1 v1 k1 => ?_
  cases x with
  | true => rw [if_pos rfl]; exact ⟨m1, ρ, st1, r1, v1, k1⟩
  | false => rw [if_neg Bool.false_ne_true]; exact ⟨m1, ρ, st1, r1, v1, k1⟩
def aNil : DA := fun _ st => ret [] st
def aCons (fa : DE) (g : DA) : DA := fun ρ st => bnd (fa ρ st) fun x st1 => bnd (g ρ st1) fun xs st2 => ret (x :: xs) st2
theorem pma_nil : PMA A X W [] aNil := pa_nil.imp fun σ H Q ⟨m, ρ, st, r, v, k⟩ => Run.ok k .refl r _ .nil
theorem pma_cons {e : Expr} {es : List Expr} {g : DA} (ha : PM A X W e fa) (hr : PMA A X W es g) (hs : starEach (e :: es) X.env = (false, eval e X.env) :: starEach es X.env) : PMA A X W (e :: es) (aCons fa g) := by
  refine (pa_cons ha hr hs).imp fun σ H Q ⟨m, ρ, st, r, v, k⟩ => ?_
  refine tM.thenG r v k fun x u st1 m1 H1 r1 e1 v1 hu k1 => ?_
  refine tMA.thenG r1 v1 k1 fun xs us st2 m2 H2 r2 e2 v2 hus k2 => ?_
  exact Run.ok k2 .refl r2 _ (.cons (hu.mono e2) hus)
def eTup (g : DA) : DE := fun ρ st => bnd (g ρ st) fun xs st1 => if xs.length ≤ sizeLine then ret (.tup xs) st1 else none
def eLst (g : DA) : DE := fun ρ st => bnd (g ρ st) fun xs st1 => if xs.length ≤ sizeLine then ret (.ref st1.length) (st1 ++ [.lst xs]) else none
theorem new_tup {c : GC} {m : List Addr} {st : Sto} {xs : List MV} {us : List V} {Q : VK} (r : Rel c m st H) (h : RVs c m H xs us) (k : Run c W σ m H (ret (MV.tup xs) st) (kV c Q)) : ∀ p, H p = none → Q (.ref p) (upd H p (.tup us)) := fun p hp =>
  k m (upd H p (.tup us)) (ext_new hp) (r.same (upd_keeps hp)) _ (.tup (SqT.of upd_same) (h.mono (ext_new hp)))
theorem new_lst {c : GC} {m : List Addr} {st : Sto} {xs : List MV} {us : List V} {Q : VK} (r : Rel c m st H) (h : RVs c m H xs us) (k : Run c W σ m H (ret (MV.ref st.length) (st ++ [.lst xs])) (kV c Q)) : ∀ p, H p = none → Q (.ref p) (upd H p (.lst us)) := fun p hp => by
  have e0 : Ext c m H (m ++ [p]) (upd H p (.lst us)) := Ext.grow hp (upd_keeps hp)
  obtain ⟨r1, e1⟩ := r.grow (o := .lst xs) hp (upd_keeps (u := .lst us) hp) ⟨us, upd_same, h.mono e0⟩
  exact k _ _ e1 r1 _ (.ref (by rw [← r.len]; simp))
theorem pm_tup {es : List Expr} {g : DA} {k : Nat} (h : PMA A X W es g) : PM A X W (.Tuple es k pos) (eTup g) := by
  refine (pe_tup h).imp fun σ H Q ⟨m, ρ, st, r, v, k⟩ => ?_
  refine tMA.thenG r v k fun xs us st1 m1 H1 r1 e1 v1 hus k1 => ?_
  by_cases hl : xs.length ≤ sizeLine
  · rw [if_pos hl] at k1
    exact ⟨by rw [← hus.length]; exact hl, new_tup r1 hus k1⟩
  · rw [if_neg hl] at k1; exact k1.elim
theorem pm_lst {es : List Expr} {g : DA} (h : PMA A X W es g) : PM A X W (.List es pos) (eLst g) := by
  refine (pe_lst h).imp fun σ H Q ⟨m, ρ, st, r, v, k⟩ => ?_
  refine tMA.thenG r v k fun xs us st1 m1 H1 r1 e1 v1 hus k1 => ?_
  by_cases hl : xs.length ≤ sizeLine
  · rw [if_pos hl] at k1
    exact ⟨by rw [← hus.length]; exact hl, new_lst r1 hus k1⟩
  · rw [if_neg hl] at k1; exact k1.elim
end
end CS
namespace CS
open PySem PySem.Spec L2
abbrev R2Ok (c : GC) (W : WX) (g : MV → MV → Sto → R MV) (r : R2) : Prop :=
  ∀ (m : List Addr) (st : Sto) (σ : L2.St) (H : Hp) (x y : MV) (u v : V) (Q : VK), Rel c m st H → RV c m H x u → RV c m H y v → Run c W σ m H (g x y st) (kV c Q) → r u v H Q

def addM (x y : MV) (st : Sto) : R MV :=
  match x, y with
  | .int i, .int j => ret (.int (i + j)) st
  | .str a, .str b => if a.length + b.length ≤ sizeLine then ret (.str (a ++ b)) st else none
  | .tup xs, .tup ys => if xs.length + ys.length ≤ sizeLine then ret (.tup (xs ++ ys)) st else none
  | .ref i, .ref j => match st[i]?, st[j]? with
    | some (.lst xs), some (.lst ys) => if xs.length + ys.length ≤ sizeLine then ret (.ref st.length) (st ++ [.lst (xs ++ ys)]) else none
    | _, _ => none
  | _, _ => none
def subM (x y : MV) (st : Sto) : R MV :=
  match x, y with
  | .int i, .int j => ret (.int (i - j)) st
  | _, _ => none
def mulM (x y : MV) (st : Sto) : R MV :=
  match x, y with
  | .int i, .int j => if i.natAbs < 2 ^ 64 ∨ j.natAbs < 2 ^ 64 ∨ i.natAbs.log2 + j.natAbs.log2 < 1000000 then ret (.int (i * j)) st else none
  | .tup xs, .int k => if !xs.isEmpty && decide (2 ≤ k) && decide (k ≤ 1000) && decide (xs.length ≤ 1000) then ret (.tup (List.replicate k.toNat xs).flatten) st else none
  | .ref i, .int k => match st[i]? with
    | some (.lst xs) => if -(2 ^ 63) ≤ k ∧ k < 2 ^ 63 ∧ xs.length * k.toNat ≤ sizeLine then ret (.ref st.length) (st ++ [.lst (List.replicate k.toNat xs).flatten]) else none
    | _ => none
  | _, _ => none
def divM (x y : MV) (st : Sto) : R MV :=
  match x, y with
  | .int i, .int j => if 0 < j ∧ j.natAbs.log2 < 9000 then ret (.int (i / j)) st else none
  | _, _ => none
def modM (x y : MV) (st : Sto) : R MV :=
  match x, y with
  | .int i, .int j => if 0 < j then ret (.int (i % j)) st else none
  | _, _ => none
def powM (x y : MV) (st : Sto) : R MV :=
  match x, y with
  | .int i, .int j => if 0 ≤ j ∧ j ≤ 1000000 ∧ i.natAbs < 2 ^ 64 then ret (.int (i ^ j.toNat)) st else none
  | _, _ => none
def negM (x : MV) (st : Sto) : R MV :=
  match x with
  | .int i => ret (.int (-i)) st
  | _ => none
def intCmp (p : Int → Int → Bool) (x y : MV) (st : Sto) : R MV :=
  match x, y with
  | .int i, .int j => ret (.bl (p i j)) st
  | _, _ => none
section
variable {A : AD} {X : Cx} {W : WX}
theorem op_addM : OpM A X W (binaryOp .Add) addM := by
  refine ⟨_, op_add.or (op_add_str.or (op_catA.or op_cat)), fun m st σ H x y u v Q r hx hy k => ?_⟩
  unfold addM at k
  split at k
  · cases hx; cases hy
    exact .inl ⟨_, _, rfl, rfl, k.ok .refl r _ (.int _)⟩
  · cases hx; cases hy
    split at k
    · rename_i hl
      exact .inr (.inl ⟨_, _, rfl, rfl, hl, k.ok .refl r _ (.str _)⟩)
    · exact k.elim
  · cases hx with
    | @tup a xs vs hs hv =>
    cases hy with
    | @tup b ys us ht hu =>
    split at k
    · rename_i hl
      refine .inr (.inr (.inl ⟨a, b, vs, us, rfl, rfl, hs, ht, by rw [← hv.length, ← hu.length]; exact hl, fun e => ?_, fun n e => ?_, fun n n' => ?_⟩))
      · subst e
        cases hv
        exact k.ok .refl r _ (.tup ht hu)
      · subst e
        cases hu
        rw [List.append_nil] at k
        exact k.ok .refl r _ (.tup hs hv)
      · exact new_tup r (hv.append hu) k
    · exact k.elim
  · cases hx with
    | @ref i a hi =>
    cases hy with
    | @ref j b hj =>
    split at k
    · rename_i xs ys e1 e2
      split at k
      · rename_i hl
        obtain ⟨vs, h1, hv⟩ := r.lst e1 hi
        obtain ⟨us, h2, hu⟩ := r.lst e2 hj
        exact .inr (.inr (.inr ⟨a, b, vs, us, rfl, rfl, h1, h2, by rw [← hv.length, ← hu.length]; exact hl, new_lst r (hv.append hu) k⟩))
      · exact k.elim
    · exact k.elim
  · exact k.elim
theorem op_subM : OpM A X W (binaryOp .Sub) subM := by
  refine ⟨_, op_sub, fun m st σ H x y u v Q r hx hy k => ?_⟩
  unfold subM at k
  split at k
  · cases hx; cases hy
    exact ⟨_, _, rfl, rfl, k.ok .refl r _ (.int _)⟩
  · exact k.elim
theorem op_mulM : OpM A X W (binaryOp .Mult) mulM := by
  refine ⟨_, (op_mulW.or op_mul).or (op_repT.or op_rep), fun m st σ H x y u v Q r hx hy k => ?_⟩
  unfold mulM at k
  split at k
  · cases hx; cases hy
    split at k
    · rename_i hl
      have q := k.ok .refl r _ (.int _)
      rcases hl with h1 | h2 | hl
      · exact .inl (.inr ⟨_, _, rfl, rfl, .inl (by omega), q⟩)
      · exact .inl (.inr ⟨_, _, rfl, rfl, .inr (by omega), q⟩)
      · exact .inl (.inl ⟨_, _, rfl, rfl, hl, q⟩)
    · exact k.elim
  · cases hy
    cases hx with
    | @tup a xs vs hs hv =>
    split at k
    · rename_i hl
      simp only [Bool.and_eq_true, Bool.not_eq_true', decide_eq_true_eq] at hl
      obtain ⟨⟨⟨h1, h2⟩, h3⟩, h4⟩ := hl
      have hv0 : vs ≠ [] := fun z => by
        subst z
        have := hv.length
        simp at this
        subst this
        cases h1
      exact .inr (.inl ⟨a, _, vs, rfl, rfl, hs, hv0, h2, h3, by rw [← hv.length]; exact h4, new_tup r (hv.rep _) k⟩)
    · exact k.elim
  · cases hy
    cases hx with
    | @ref i a hi =>
    split at k
    · rename_i xs e1
      split at k
      · rename_i hl
        obtain ⟨vs, h1, hv⟩ := r.lst e1 hi
        exact .inr (.inr ⟨a, _, vs, rfl, rfl, h1, hl.1, hl.2.1, by rw [← hv.length]; exact hl.2.2, new_lst r (hv.rep _) k⟩)
      · exact k.elim
    · exact k.elim
  · exact k.elim
theorem op_divM : OpM A X W (binaryOp .FloorDiv) divM := by
  refine ⟨_, op_fdivW, fun m st σ H x y u v Q r hx hy k => ?_⟩
  unfold divM at k
  split at k
  · cases hx; cases hy
    split at k
    · rename_i hl
      exact ⟨_, _, rfl, rfl, hl, k.ok .refl r _ (.int _)⟩
    · exact k.elim
  · exact k.elim
theorem op_modM : OpM A X W (binaryOp .Mod) modM := by
  refine ⟨_, op_mod, fun m st σ H x y u v Q r hx hy k => ?_⟩
  unfold modM at k
  split at k
  · cases hx; cases hy
    split at k
    · rename_i hl
      exact ⟨_, _, rfl, rfl, hl, k.ok .refl r _ (.int _)⟩
    · exact k.elim
  · exact k.elim
theorem op_powM : OpM A X W (binaryOp .Pow) powM := by
  refine ⟨_, op_pow, fun m st σ H x y u v Q r hx hy k => ?_⟩
  unfold powM at k
  split at k
  · cases hx; cases hy
    split at k
    · rename_i hl
      exact ⟨_, _, rfl, rfl, hl, k.ok .refl r _ (.int _)⟩
    · exact k.elim
  · exact k.elim
theorem un_negM : UnM A X W (unaryOp .USub) negM := by
  refine ⟨_, un_neg, fun m st σ H x u Q r hx k => ?_⟩
  unfold negM at k
  split at k
  · cases hx
    exact ⟨_, rfl, k.ok .refl r _ (.int _)⟩
  · exact k.elim
theorem intCmp_ok {f : Value → Value → Sem Value} {p : Int → Int → Bool} (h : OpR X f (rI0 fun i j => .bl (p i j))) : OpM A X W f (intCmp p) := by
  refine ⟨_, h, fun m st σ H x y u v Q r hx hy k => ?_⟩
  unfold intCmp at k
  split at k
  · cases hx; cases hy
    exact ⟨_, _, rfl, rfl, k.ok .refl r _ (.bl _)⟩
  · exact k.elim
abbrev ltM := intCmp fun i j => decide (i < j)
abbrev leM := intCmp fun i j => decide (i ≤ j)
abbrev gtM := intCmp fun i j => decide (j < i)
abbrev geM := intCmp fun i j => decide (j ≤ i)
theorem op_ltM : OpM A X W (compareOp .Lt) ltM := intCmp_ok op_lt
theorem op_leM : OpM A X W (compareOp .LtE) leM := intCmp_ok op_le
theorem op_gtM : OpM A X W (compareOp .Gt) gtM := intCmp_ok op_gt
theorem op_geM : OpM A X W (compareOp .GtE) geM := intCmp_ok op_ge
def isNon : MV → Bool
  | .non => true
  | _ => false
def isNonM (neg : Bool) (x y : MV) (st : Sto) : R MV :=
  match y with
  | .non => ret (.bl (neg != isNon x)) st
  | _ => none
theorem rv_non {c : GC} {m : List Addr} {H : Hp} {x : MV} {u : V} (h : RV c m H x u) : decide (u = .non) = isNon x := by
  cases h <;> rfl
theorem op_isM : OpM A X W (compareOp .Is) (isNonM false) := by
  refine ⟨_, op_isN, fun m st σ H x y u v Q r hx hy k => ?_⟩
  unfold isNonM at k
  split at k
  · cases hy
    refine ⟨rfl, ?_⟩
    rw [rv_non hx]
    have := k.ok .refl r _ (.bl _)
    simpa using this
  · exact k.elim
theorem op_isnotM : OpM A X W (compareOp .IsNot) (isNonM true) := by
  refine ⟨_, op_notN, fun m st σ H x y u v Q r hx hy k => ?_⟩
  unfold isNonM at k
  split at k
  · cases hy
    refine ⟨rfl, ?_⟩
    rw [rv_non hx]
    have := k.ok .refl r _ (.bl _)
    simpa using this
  · exact k.elim
end
mutual
def dataM (st : Sto) : Nat → MV → Option PyData
  | _, .non => some .none
  | _, .bl b => some (.bool b)
  | _, .int i => some (.int i)
  | _, .str x => some (.str x)
  | n + 1, .tup xs => (dataMs st n xs).map .tuple
  | n + 1, .ref i => match listOf st i with
    | some xs => (dataMs st n xs).map .list
    | none => none
  | _, _ => none
def dataMs (st : Sto) : Nat → List MV → Option (List PyData)
  | _, [] => some []
  | 0, _ => none
  | n + 1, x :: xs => match dataM st n x, dataMs st (n + 1) xs with
    | some d, some ds => some (d :: ds)
    | _, _ => none
end
theorem dp_of {c : GC} {m : List Addr} {st : Sto} {H : Hp} (r : Rel c m st H) : ∀ n : Nat,
    (∀ (x : MV) (u : V) (d : PyData), RV c m H x u → dataM st n x = some d → Dp c.K H u d) ∧ (∀ (xs : List MV) (us : List V) (ds : List PyData), RVs c m H xs us → dataMs st n xs = some ds → DpAll c.K H us ds) := by
  intro n
  induction n using Nat.strongRecOn with
  | _ n ih =>
    have one : ∀ (x : MV) (u : V) (d : PyData), RV c m H x u → dataM st n x = some d → Dp c.K H u d := by
      intro x u d h e
      cases h with
      | non => cases n <;> (simp only [dataM] at e; cases e; exact .non)
      | bl b => cases n <;> (simp only [dataM] at e; cases e; exact .bl _)
      | int i => cases n <;> (simp only [dataM] at e; cases e; exact .int _)
      | str y => cases n <;> (simp only [dataM] at e; cases e; exact .str _)
      | @tup a xs vs hs hv =>
        cases n with
        | zero => simp only [dataM] at e; cases e
        | succ n =>
          simp only [dataM] at e
          cases q : dataMs st n xs with
          | none => rw [q] at e; cases e
          | some ds =>
            rw [q] at e
            cases e
            exact .tup hs ((ih n (Nat.lt_succ_self n)).2 xs vs ds hv q)
      | @ref i a hi =>
        cases n with
        | zero => simp only [dataM] at e; cases e
        | succ n =>
          simp only [dataM] at e
          cases q : listOf st i with
          | none => rw [q] at e; cases e
          | some xs =>
            rw [q] at e
            simp only at e
            obtain ⟨vs, hs, hv⟩ := r.list q hi
            cases q2 : dataMs st n xs with
            | none => rw [q2] at e; cases e
            | some ds =>
              rw [q2] at e
              cases e
              exact .lst hs ((ih n (Nat.lt_succ_self n)).2 xs vs ds hv q2)
      | fn => cases n <;> (simp only [dataM] at e; cases e)
      | cl => cases n <;> (simp only [dataM] at e; cases e)
      | ty => cases n <;> (simp only [dataM] at e; cases e)
    refine ⟨one, ?_⟩
    intro xs
    induction xs with
    | nil =>
      intro us ds h e
      cases h
      cases n <;> (simp only [dataMs] at e; cases e; exact .nil)
    | cons x xs ihx =>
      intro us ds h e
      cases h with
      | cons h1 h2 =>
      cases n with
      | zero => simp only [dataMs] at e; cases e
      | succ n =>
        simp only [dataMs] at e
        cases q : dataM st n x with
        | none => rw [q] at e; cases e
        | some d =>
          rw [q] at e
          cases q2 : dataMs st (n + 1) xs with
          | none => rw [q2] at e; cases e
          | some ds' =>
            rw [q2] at e
            cases e
            exact .cons ((ih n (Nat.lt_succ_self n)).1 x _ d h1 q) (ihx _ _ h2 q2)
def eqD (x y : MV) (st : Sto) : Option Bool :=
  match x, y with
  | .int i, .int j => some (decide (i = j))
  | .str a, .str b => some (decide (a = b))
  | .bl a, .bl b => some (decide (a = b))
  | .non, .non => some true
  | .non, .int _ => some false
  | .int _, .non => some false
  | x, y => match dataM st 30 x, dataM st 30 y with
    | some d, some e => if SeqAt.shaped d && SeqAt.shaped e then some (PyData.eqv d e) else none
    | _, _ => none
def eqM (x y : MV) (st : Sto) : R MV := match eqD x y st with | some k => ret (.bl k) st | none => none
def neM (x y : MV) (st : Sto) : R MV := match eqD x y st with | some k => ret (.bl (!k)) st | none => none
section
variable {A : AD} {X : Cx} {W : WX}
theorem eqD_ok {c : GC} {m : List Addr} {st : Sto} {H : Hp} {x y : MV} {u v : V} {k : Bool} (r : Rel c m st H) (hx : RV c m H x u) (hy : RV c m H y v) (e : eqD x y st = some k) :
    (scal u v = true ∧ decide (u = v) = k) ∨ ∃ d e, Dp c.K H u d ∧ Dp c.K H v e ∧ SeqAt.shaped d = true ∧ SeqAt.shaped e = true ∧ PyData.eqv d e = k := by
  unfold eqD at e
  split at e
  · cases hx; cases hy; cases e
    exact .inl ⟨rfl, by rw [dec_int]; exact Bool.beq_eq_decide_eq _ _⟩
  · cases hx; cases hy; cases e
    exact .inl ⟨rfl, by rw [dec_str]; exact Bool.beq_eq_decide_eq _ _⟩
  · cases hx; cases hy; cases e
    exact .inl ⟨rfl, by rw [dec_bl]; exact Bool.beq_eq_decide_eq _ _⟩
  · cases hx; cases hy; cases e
    exact .inl ⟨rfl, rfl⟩
  · cases hx; cases hy; cases e
    exact .inl ⟨rfl, rfl⟩
  · cases hx; cases hy; cases e
    exact .inl ⟨rfl, rfl⟩
  · split at e
    · rename_i d d' h1 h2
      split at e
      · rename_i hs
        rw [Bool.and_eq_true] at hs
        cases e
        exact .inr ⟨d, d', (dp_of r 30).1 _ _ _ hx h1, (dp_of r 30).1 _ _ _ hy h2, hs.1, hs.2, rfl⟩
      · cases e
    · cases e
theorem op_eqM (hu : X.A.units + 64 < cLine) : OpM A X W (compareOp .Eq) eqM := by
  refine ⟨_, op_eq.or (op_eqD hu), fun m st σ H x y u v Q r hx hy k => ?_⟩
  unfold eqM at k
  split at k
  · rename_i kk e
    have q := k.ok .refl r _ (.bl _)
    rcases eqD_ok r hx hy e with ⟨h1, h2⟩ | ⟨d, d', h1, h2, h3, h4, h5⟩
    · exact .inl ⟨h1, by rw [h2]; exact q⟩
    · exact .inr ⟨d, d', h1, h2, h3, h4, by rw [h5]; exact q⟩
  · exact k.elim
theorem op_neM (hu : X.A.units + 64 < cLine) : OpM A X W (compareOp .NotEq) neM := by
  refine ⟨_, op_ne.or (op_neD hu), fun m st σ H x y u v Q r hx hy k => ?_⟩
  unfold neM at k
  split at k
  · rename_i kk e
    have q := k.ok .refl r _ (.bl _)
    rcases eqD_ok r hx hy e with ⟨h1, h2⟩ | ⟨d, d', h1, h2, h3, h4, h5⟩
    · exact .inl ⟨h1, by rw [h2]; exact q⟩
    · exact .inr ⟨d, d', h1, h2, h3, h4, by rw [h5]; exact q⟩
  · exact k.elim
end
section
variable {A : AD} {X : Cx} {W : WX}
def ClM (A : AD) (X : Cx) (W : WX) (f : Value) (g : List MV → Sto → R MV) : Prop :=
  ∃ r : List V → Hp → VK → Prop, CallR X f r ∧ ∀ (m : List Addr) (st : Sto) (σ : L2.St) (H : Hp) (xs : List MV) (us : List V) (Q : VK), Rel (gc A X) m st H → RVs (gc A X) m H xs us → Run (gc A X) W σ m H (g xs st) (kV (gc A X) Q) → r us H Q
def eCall (g : List MV → Sto → R MV) (fa : DA) : DE := fun ρ st => bnd (fa ρ st) fun xs st1 => g xs st1
theorem tCB_of {c : GC} {r : List V → Hp → VK → Prop} {g : List MV → Sto → R MV} {fa : DA} {σ : L2.St} {H : Hp} (hr : ∀ (m : List Addr) (st : Sto) (σ : L2.St) (H : Hp) (xs : List MV) (us : List V) (Q : VK), Rel c m st H → RVs c m H xs us → Run c W σ m H (g xs st) (kV c Q) → r us H Q)
    {Q : VK} (h : tM c W (eCall g fa) σ H Q) : tCB r (tMA c W fa) σ H Q := by
  obtain ⟨m, ρ, st, rr, v, k⟩ := h
  exact tMA.thenG rr v k fun xs us st1 m1 H1 r1 e1 v1 hus k1 => hr m1 st1 σ H1 xs us Q r1 hus k1
theorem CallR.or {f : Value} {r r' : List V → Hp → VK → Prop} (h : CallR X f r) (h' : CallR X f r') : CallR X f (fun xs H Q => r xs H Q ∨ r' xs H Q) := fun pins s σ H xs us Q I rr q =>
  q.elim (h pins s σ H xs us Q I rr) (h' pins s σ H xs us Q I rr)
def lenD (x : MV) (st : Sto) : Option Int :=
  match x with
  | .str y => if y.length ≤ sizeLine then some y.length else none
  | .tup xs => some xs.length
  | .ref i => (listOf st i).map fun xs => (xs.length : Int)
  | _ => none
def lenM (xs : List MV) (st : Sto) : R MV :=
  match xs with
  | [x] => match lenD x st with | some n => ret (.int n) st | none => none
  | _ => none
theorem cl_len : ClM A X W (.builtin "len") lenM := by
  refine ⟨_, call_len, fun m st σ H xs us Q r h k => ?_⟩
  unfold lenM at k
  split at k
  · rename_i x
    cases h with
    | cons h h' =>
    cases h'
    split at k
    · rename_i n e
      have q := k.ok .refl r _ (.int n)
      unfold lenD at e
      split at e
      · cases h
        split at e
        · rename_i hl
          cases e
          exact ⟨_, _, rfl, ⟨hl, rfl⟩, q⟩
        · cases e
      · cases h with
        | @tup a ys vs hs hv =>
        cases e
        exact ⟨_, vs.length, rfl, .inr ⟨vs, hs, rfl⟩, by rw [← hv.length]; exact q⟩
      · rename_i i
        cases h with
        | @ref i a hi =>
        cases q2 : listOf st i with
        | none => rw [q2] at e; cases e
        | some ys =>
          rw [q2] at e
          cases e
          obtain ⟨vs, hs, hv⟩ := r.list q2 hi
          exact ⟨_, vs.length, rfl, .inl ⟨vs, hs, rfl⟩, by rw [← hv.length]; exact q⟩
      · cases e
    · exact k.elim
  · exact k.elim
def absM (xs : List MV) (st : Sto) : R MV := match xs with | [.int i] => ret (.int (if i < 0 then -i else i)) st | _ => none
def max2M (xs : List MV) (st : Sto) : R MV := match xs with | [.int i, .int j] => ret (.int (if j > i then j else i)) st | _ => none
def min2M (xs : List MV) (st : Sto) : R MV := match xs with | [.int i, .int j] => ret (.int (if j < i then j else i)) st | _ => none
def intM (xs : List MV) (st : Sto) : R MV := match xs with | [.int i] => ret (.int i) st | [.bl k] => ret (.int (if k then 1 else 0)) st | _ => none
def strM (xs : List MV) (st : Sto) : R MV := match xs with | [.int i] => if i.natAbs.log2 < 1920 then ret (.str (toString i)) st else none | _ => none
def divmodM (xs : List MV) (st : Sto) : R MV := match xs with | [.int i, .int j] => if 0 < j ∧ j < 1073741824 then ret (.tup [.int (i / j), .int (i % j)]) st else none | _ => none
theorem cl_abs : ClM A X W (.builtin "abs") absM := by
  refine ⟨_, call_abs, fun m st σ H xs us Q r h k => ?_⟩
  unfold absM at k
  split at k
  · rename_i i
    match us, h with
    | [_], .cons (.int _) .nil => exact ⟨i, rfl, k.ok .refl r _ (.int _)⟩
  · exact k.elim
theorem cl_max2 (hc : X.calm = true) : ClM A X W (.builtin "max") max2M := by
  refine ⟨_, call_max2 hc, fun m st σ H xs us Q r h k => ?_⟩
  unfold max2M at k
  split at k
  · rename_i i j
    match us, h with
    | [_, _], .cons (.int _) (.cons (.int _) .nil) => exact ⟨i, j, rfl, k.ok .refl r _ (.int _)⟩
  · exact k.elim
theorem cl_min2 (hc : X.calm = true) : ClM A X W (.builtin "min") min2M := by
  refine ⟨_, call_min2 hc, fun m st σ H xs us Q r h k => ?_⟩
  unfold min2M at k
  split at k
  · rename_i i j
    match us, h with
    | [_, _], .cons (.int _) (.cons (.int _) .nil) => exact ⟨i, j, rfl, k.ok .refl r _ (.int _)⟩
  · exact k.elim
theorem cl_int : ClM A X W (.type "int") intM := by
  refine ⟨_, call_int1, fun m st σ H xs us Q r h k => ?_⟩
  unfold intM at k
  split at k
  · rename_i i
    match us, h with
    | [_], .cons (.int _) .nil => exact .inl ⟨i, rfl, k.ok .refl r _ (.int _)⟩
  · rename_i b
    match us, h with
    | [_], .cons (.bl _) .nil => exact .inr ⟨b, rfl, k.ok .refl r _ (.int _)⟩
  · exact k.elim
theorem cl_str : ClM A X W (.type "str") strM := by
  refine ⟨_, call_str_int, fun m st σ H xs us Q r h k => ?_⟩
  unfold strM at k
  split at k
  · rename_i i
    split at k
    · rename_i hl
      match us, h with
      | [_], .cons (.int _) .nil => exact ⟨i, rfl, hl, k.ok .refl r _ (.str _)⟩
    · exact k.elim
  · exact k.elim
theorem cl_divmod : ClM A X W (.builtin "divmod") divmodM := by
  refine ⟨_, call_divmod, fun m st σ H xs us Q r h k => ?_⟩
  unfold divmodM at k
  split at k
  · rename_i i j
    split at k
    · rename_i hl
      match us, h with
      | [_, _], .cons (.int _) (.cons (.int _) .nil) => exact ⟨i, j, rfl, hl, new_tup r (.cons (.int _) (.cons (.int _) .nil)) k⟩
    · exact k.elim
  · exact k.elim
def seqM (x : MV) (st : Sto) : Option (List MV) :=
  match x with
  | .tup xs => some xs
  | .ref i => listOf st i
  | _ => none
def tupleM (xs : List MV) (st : Sto) : R MV := match xs with | [x] => (match seqM x st with | some ys => ret (.tup ys) st | none => none) | _ => none
def listM (xs : List MV) (st : Sto) : R MV := match xs with | [x] => (match seqM x st with | some ys => ret (.ref st.length) (st ++ [.lst ys]) | none => none) | _ => none
theorem seqM_ok {c : GC} {m : List Addr} {st : Sto} {H : Hp} {x : MV} {u : V} {ys : List MV} (r : Rel c m st H) (h : RV c m H x u) (e : seqM x st = some ys) :
    ∃ a vs, u = .ref a ∧ RVs c m H ys vs ∧ ((SqL c.K H a vs ∧ (∃ i, x = .ref i ∧ listOf st i = some ys)) ∨ (SqT c.K H a vs ∧ x = .tup ys)) := by
  unfold seqM at e
  split at e
  · cases e
    cases h with
    | @tup a xs vs hs hv => exact ⟨a, vs, rfl, hv, .inr ⟨hs, rfl⟩⟩
  · cases h with
    | @ref i a hi =>
    obtain ⟨vs, hs, hv⟩ := r.list e hi
    exact ⟨a, vs, rfl, hv, .inl ⟨hs, _, rfl, e⟩⟩
  · cases e
theorem cl_tuple : ClM A X W (.type "tuple") tupleM := by
  refine ⟨_, call_tuple_of, fun m st σ H xs us Q r h k => ?_⟩
  unfold tupleM at k
  split at k
  · rename_i x
    cases h with
    | cons h h' =>
    cases h'
    split at k
    · rename_i ys e
      obtain ⟨a, vs, rfl, hv, ⟨hs, _⟩ | ⟨hs, rfl⟩⟩ := seqM_ok r h e
      · exact ⟨a, vs, rfl, .inl ⟨hs, new_tup r hv k⟩⟩
      · exact ⟨a, vs, rfl, .inr ⟨hs, k.ok .refl r _ h⟩⟩
    · exact k.elim
  · exact k.elim
theorem cl_list : ClM A X W (.type "list") listM := by
  refine ⟨_, call_list_of, fun m st σ H xs us Q r h k => ?_⟩
  unfold listM at k
  split at k
  · rename_i x
    cases h with
    | cons h h' =>
    cases h'
    split at k
    · rename_i ys e
      obtain ⟨a, vs, rfl, hv, q⟩ := seqM_ok r h e
      exact ⟨a, vs, rfl, q.imp (·.1) (·.1), new_lst r hv k⟩
    · exact k.elim
  · exact k.elim
end
end CS
namespace CS
open PySem PySem.Spec L2
section
variable {A : AD} {X : Cx} {W : WX}
def bools : List MV → Option (List Bool)
  | [] => some []
  | .bl b :: r => (bools r).map (b :: ·)
  | _ :: _ => none
def intsM : List MV → Option (List Int)
  | [] => some []
  | .int i :: r => (intsM r).map (i :: ·)
  | _ :: _ => none
theorem bools_ok {c : GC} {m : List Addr} {H : Hp} : ∀ {xs : List MV} {us : List V} {bs : List Bool}, RVs c m H xs us → bools xs = some bs → us = bs.map V.bl
  | _, _, _, .nil, e => by cases e; rfl
  | x :: xs, _, _, .cons h r, e => by
    cases h <;> unfold bools at e
    case bl b =>
      cases q : bools xs with
      | none => rw [q] at e; cases e
      | some bs => rw [q] at e; cases e; rw [bools_ok r q]; rfl
    all_goals cases e
theorem intsM_ok {c : GC} {m : List Addr} {H : Hp} : ∀ {xs : List MV} {us : List V} {ns : List Int}, RVs c m H xs us → intsM xs = some ns → us = ns.map V.int
  | _, _, _, .nil, e => by cases e; rfl
  | x :: xs, _, _, .cons h r, e => by
    cases h <;> unfold intsM at e
    case int i =>
      cases q : intsM xs with
      | none => rw [q] at e; cases e
      | some ns => rw [q] at e; cases e; rw [intsM_ok r q]; rfl
    all_goals cases e
def boolsOf (st : Sto) (x : MV) : Option (List Bool) := match x with | .ref i => (match listOf st i with | some xs => bools xs | none => none) | _ => none
def intsOf (st : Sto) (x : MV) : Option (List Int) := match x with | .ref i => (match listOf st i with | some xs => intsM xs | none => none) | _ => none
theorem boolsOf_ok {c : GC} {m : List Addr} {st : Sto} {H : Hp} {x : MV} {u : V} {bs : List Bool} (r : Rel c m st H) (h : RV c m H x u) (e : boolsOf st x = some bs) : ∃ a, u = .ref a ∧ SqL c.K H a (bs.map V.bl) := by
  unfold boolsOf at e
  split at e
  · cases h with
    | @ref i a hi =>
    split at e
    · rename_i xs q
      obtain ⟨vs, hs, hv⟩ := r.list q hi
      rw [bools_ok hv e] at hs
      exact ⟨a, rfl, hs⟩
    · cases e
  · cases e
theorem intsOf_ok {c : GC} {m : List Addr} {st : Sto} {H : Hp} {x : MV} {u : V} {ns : List Int} (r : Rel c m st H) (h : RV c m H x u) (e : intsOf st x = some ns) : ∃ a, u = .ref a ∧ SqL c.K H a (ns.map V.int) := by
  unfold intsOf at e
  split at e
  · cases h with
    | @ref i a hi =>
    split at e
    · rename_i xs q
      obtain ⟨vs, hs, hv⟩ := r.list q hi
      rw [intsM_ok hv e] at hs
      exact ⟨a, rfl, hs⟩
    · cases e
  · cases e
def anyM (xs : List MV) (st : Sto) : R MV := match xs with | [x] => (match boolsOf st x with | some bs => ret (.bl (bs.any id)) st | none => none) | _ => none
def allM (xs : List MV) (st : Sto) : R MV := match xs with | [x] => (match boolsOf st x with | some bs => ret (.bl (bs.all id)) st | none => none) | _ => none
def sumM (xs : List MV) (st : Sto) : R MV := match xs with | [x] => (match intsOf st x with | some ns => ret (.int ns.sum) st | none => none) | _ => none
def maxL : List Int → Int → Int
  | [], a => a
  | b :: r, a => maxL r (if a < b then b else a)
def minL : List Int → Int → Int
  | [], a => a
  | b :: r, a => minL r (if b < a then b else a)
theorem maxL_mem : ∀ (l : List Int) (a : Int), maxL l a = a ∨ maxL l a ∈ l
  | [], a => .inl rfl
  | b :: r, a => by
    unfold maxL
    rcases maxL_mem r (if a < b then b else a) with h | h
    · rw [h]
      split
      · exact .inr List.mem_cons_self
      · exact .inl rfl
    · exact .inr (List.mem_cons_of_mem _ h)
theorem maxL_ge : ∀ (l : List Int) (a : Int), a ≤ maxL l a ∧ ∀ x ∈ l, x ≤ maxL l a
  | [], a => ⟨Int.le_refl _, fun _ h => nomatch h⟩
  | b :: r, a => by
    unfold maxL
    obtain ⟨h1, h2⟩ := maxL_ge r (if a < b then b else a)
    refine ⟨by split at h1 <;> rename_i h <;> simp only [h, if_true, if_false] <;> omega, fun x hx => ?_⟩
    rcases List.mem_cons.mp hx with rfl | hx
    · split at h1 <;> rename_i h <;> simp only [h, if_true, if_false] <;> omega
    · exact h2 x hx
theorem minL_mem : ∀ (l : List Int) (a : Int), minL l a = a ∨ minL l a ∈ l
  | [], a => .inl rfl
  | b :: r, a => by
    unfold minL
    rcases minL_mem r (if b < a then b else a) with h | h
    · rw [h]
      split
      · exact .inr List.mem_cons_self
      · exact .inl rfl
    · exact .inr (List.mem_cons_of_mem _ h)
theorem minL_le : ∀ (l : List Int) (a : Int), minL l a ≤ a ∧ ∀ x ∈ l, minL l a ≤ x
  | [], a => ⟨Int.le_refl _, fun _ h => nomatch h⟩
  | b :: r, a => by
    unfold minL
    obtain ⟨h1, h2⟩ := minL_le r (if b < a then b else a)
    refine ⟨by split at h1 <;> rename_i h <;> simp only [h, if_true, if_false] <;> omega, fun x hx => ?_⟩
    rcases List.mem_cons.mp hx with rfl | hx
    · split at h1 <;> rename_i h <;> simp only [h, if_true, if_false] <;> omega
    · exact h2 x hx
theorem maxL_eq {l : List Int} {a m : Int} (h : m ∈ a :: l) (g : ∀ y ∈ a :: l, y ≤ m) : m = maxL l a := by
  obtain ⟨h1, h2⟩ := maxL_ge l a
  have hm : m ≤ maxL l a := by
    rcases List.mem_cons.mp h with rfl | h
    · exact h1
    · exact h2 m h
  have : maxL l a ≤ m := by
    rcases maxL_mem l a with e | e
    · rw [e]; exact g a List.mem_cons_self
    · exact g _ (List.mem_cons_of_mem _ e)
  omega
theorem minL_eq {l : List Int} {a m : Int} (h : m ∈ a :: l) (g : ∀ y ∈ a :: l, m ≤ y) : m = minL l a := by
  obtain ⟨h1, h2⟩ := minL_le l a
  have hm : minL l a ≤ m := by
    rcases List.mem_cons.mp h with rfl | h
    · exact h1
    · exact h2 m h
  have : m ≤ minL l a := by
    rcases minL_mem l a with e | e
    · rw [e]; exact g a List.mem_cons_self
    · exact g _ (List.mem_cons_of_mem _ e)
  omega
def maxM (xs : List MV) (st : Sto) : R MV :=
  match xs with
  | [x] => (match intsOf st x with | some (a :: l) => ret (.int (maxL l a)) st | _ => none)
  | xs => max2M xs st
def minM (xs : List MV) (st : Sto) : R MV :=
  match xs with
  | [x] => (match intsOf st x with | some (a :: l) => ret (.int (minL l a)) st | _ => none)
  | xs => min2M xs st
theorem cl_any (hc : X.calm = true) : ClM A X W (.builtin "any") anyM := by
  refine ⟨_, cr_any hc, fun m st σ H xs us Q r h k => ?_⟩
  unfold anyM at k
  split at k
  · cases h with
    | cons h h' =>
    cases h'
    split at k
    · rename_i bs e
      obtain ⟨a, rfl, hs⟩ := boolsOf_ok r h e
      exact ⟨a, bs, rfl, hs, k.ok .refl r _ (.bl _)⟩
    · exact k.elim
  · exact k.elim
theorem cl_all (hc : X.calm = true) : ClM A X W (.builtin "all") allM := by
  refine ⟨_, cr_all hc, fun m st σ H xs us Q r h k => ?_⟩
  unfold allM at k
  split at k
  · cases h with
    | cons h h' =>
    cases h'
    split at k
    · rename_i bs e
      obtain ⟨a, rfl, hs⟩ := boolsOf_ok r h e
      exact ⟨a, bs, rfl, hs, k.ok .refl r _ (.bl _)⟩
    · exact k.elim
  · exact k.elim
theorem cl_sum (hc : X.calm = true) : ClM A X W (.builtin "sum") sumM := by
  refine ⟨_, cr_sum hc, fun m st σ H xs us Q r h k => ?_⟩
  unfold sumM at k
  split at k
  · cases h with
    | cons h h' =>
    cases h'
    split at k
    · rename_i ns e
      obtain ⟨a, rfl, hs⟩ := intsOf_ok r h e
      exact ⟨a, ns, rfl, hs, k.ok .refl r _ (.int _)⟩
    · exact k.elim
  · exact k.elim
theorem cl_max (hc : X.calm = true) : ClM A X W (.builtin "max") maxM := by
  obtain ⟨r2, c2, q2⟩ := cl_max2 (A := A) (W := W) hc
  refine ⟨_, CallR.or (cr_max hc) c2, fun m st σ H xs us Q r h k => ?_⟩
  unfold maxM at k
  split at k
  · cases h with
    | cons h h' =>
    cases h'
    split at k
    · rename_i a l e
      obtain ⟨b, rfl, hs⟩ := intsOf_ok r h e
      refine .inl ⟨b, a :: l, rfl, hs, by simp, fun mm h1 h2 => ?_⟩
      rw [maxL_eq h1 h2]
      exact k.ok .refl r _ (.int _)
    · exact k.elim
  · exact .inr (q2 m st σ H _ us Q r h k)
theorem cl_min (hc : X.calm = true) : ClM A X W (.builtin "min") minM := by
  obtain ⟨r2, c2, q2⟩ := cl_min2 (A := A) (W := W) hc
  refine ⟨_, CallR.or (cr_min hc) c2, fun m st σ H xs us Q r h k => ?_⟩
  unfold minM at k
  split at k
  · cases h with
    | cons h h' =>
    cases h'
    split at k
    · rename_i a l e
      obtain ⟨b, rfl, hs⟩ := intsOf_ok r h e
      refine .inl ⟨b, a :: l, rfl, hs, by simp, fun mm h1 h2 => ?_⟩
      rw [minL_eq h1 h2]
      exact k.ok .refl r _ (.int _)
    · exact k.elim
  · exact .inr (q2 m st σ H _ us Q r h k)
def ixM (x y : MV) (st : Sto) : R MV :=
  match x, y with
  | .tup xs, .int i => (match atI xs i with | some v => ret v st | none => none)
  | .ref j, .int i => (match listOf st j with | some xs => (match atI xs i with | some v => ret v st | none => none) | none => none)
  | .str z, .int i => if z.length ≤ sizeLine then (match atI z.cps.toList i with | some c => ret (.str ⟨#[c]⟩) st | none => none) else none
  | _, _ => none
theorem atI_rvs {c : GC} {m : List Addr} {H : Hp} {xs : List MV} {us : List V} {i : Int} {x : MV} (r : RVs c m H xs us) (h : atI xs i = some x) : ∃ u, atI us i = some u ∧ RV c m H x u := by
  unfold atI at h ⊢
  rw [← r.length]
  cases q : ixN xs.length i with
  | none => rw [q] at h; cases h
  | some j =>
    rw [q] at h
    exact RVs.get' r h
theorem plain_ix {b : Expr} (h : ∀ l u p, b ≠ .Slice l u none p) : PlainIx b := by
  intro o i
  unfold subscripted
  split
  · rename_i l u p _
    exact absurd rfl (h _ _ _)
  · rename_i h2; cases h2
  · rfl
theorem pm_ix {a b : Expr} {fa fb : DE} {pos : Pos} (ha : PM A X W a fa) (hb : PM A X W b fb) (hs : PlainIx b) : PM A X W (.Subscript a b pos) (eOp ixM fa fb) := by
  refine (pe_ix ix_seq ha hb hs).imp fun σ H Q q => tOp_of (c := gc A X) (fun m st σ H x y u v Q r hx hy k => ?_) q
  unfold ixM at k
  split at k
  · cases hx with
    | @tup a xs vs hs hv =>
    cases hy
    split at k
    · rename_i v e
      obtain ⟨u, h1, h2⟩ := atI_rvs hv e
      exact .inr (.inl ⟨a, vs, _, u, rfl, rfl, hs, h1, k.ok .refl r _ h2⟩)
    · exact k.elim
  · cases hx with
    | @ref j a hj =>
    cases hy
    split at k
    · rename_i xs q
      obtain ⟨vs, hs, hv⟩ := r.list q hj
      split at k
      · rename_i v e
        obtain ⟨u, h1, h2⟩ := atI_rvs hv e
        exact .inl ⟨a, vs, _, u, rfl, rfl, hs, h1, k.ok .refl r _ h2⟩
      · exact k.elim
    · exact k.elim
  · cases hx
    cases hy
    split at k
    · rename_i hl
      split at k
      · rename_i cc e
        exact .inr (.inr ⟨_, _, cc, rfl, rfl, hl, e, k.ok .refl r _ (.str _)⟩)
      · exact k.elim
    · exact k.elim
  · exact k.elim
abbrev DO := MEnv → Sto → R (Option Int)
def tMO (c : GC) (W : WX) (f : DO) : TO := fun σ H Q => ∃ m ρ st, Rel c m st H ∧ REnv c m H ρ σ ∧ Run c W σ m H (f ρ st) (fun o _ _ H' => Q o H')
abbrev PMO (A : AD) (X : Cx) (W : WX) (e : Option Expr) (f : DO) : Prop := PO X e (tMO (gc A X) W f)
def oNone : DO := fun _ st => ret none st
def oSome (f : DE) : DO := fun ρ st => bnd (f ρ st) fun x st1 => match x with | .int i => ret (some i) st1 | _ => none
theorem pmo_none : PMO A X W none oNone := ⟨fun pins s σ H Q I ⟨m, ρ, st, r, v, k⟩ => po_none.run pins s σ H Q I (Run.ok k .refl r)⟩
theorem pmo_some {e : Expr} {f : DE} (h : PM A X W e f) : PMO A X W (some e) (oSome f) := ⟨fun pins s σ H Q I ⟨m, ρ, st, r, v, k⟩ => (po_some h).run pins s σ H Q I (by
  refine tM.thenG r v k fun x u st1 m1 H1 r1 e1 v1 hu k1 => ?_
  cases x with
  | int i => cases hu; exact ⟨_, rfl, Run.ok k1 .refl r1⟩
  | _ => exact k1.elim)⟩
def cutM (xs : List MV) (lo hi : Option Int) : List MV := (xs.drop (HT.sIx xs.length 0 lo)).take (HT.sIx xs.length xs.length hi - HT.sIx xs.length 0 lo)
def slM (x : MV) (lo hi : Option Int) (st : Sto) : R MV :=
  match x with
  | .tup xs => ret (.tup (cutM xs lo hi)) st
  | .ref i => (match listOf st i with | some xs => ret (.ref st.length) (st ++ [.lst (cutM xs lo hi)]) | none => none)
  | _ => none
def eSl (fa : DE) (fl fh : DO) : DE := fun ρ st => bnd (fa ρ st) fun x st1 => bnd (fl ρ st1) fun lo st2 => bnd (fh ρ st2) fun hi st3 => slM x lo hi st3
theorem cut_rvs {c : GC} {m : List Addr} {H : Hp} {xs : List MV} {us : List V} (r : RVs c m H xs us) (lo hi : Option Int) : RVs c m H (cutM xs lo hi) (cutV us lo hi) := by
  unfold cutM cutV
  rw [← r.length]
  exact (r.drop _).take _
theorem tMO.thenG {α : Type} {c : GC} {f : DO} {g : Option Int → Sto → R α} {K : Kn α} {Q : Option Int → Hp → Prop} {σ : L2.St} {H : Hp} {m : List Addr} {ρ : MEnv} {st : Sto} (r : Rel c m st H) (v : REnv c m H ρ σ) (k : Run c W σ m H (CS.bnd (f ρ st) g) K)
    (h : ∀ x st' m' H', Rel c m' st' H' → Ext c m H m' H' → REnv c m' H' ρ σ → Run c W σ m' H' (g x st') K → Q x H') : tMO c W f σ H Q :=
  ⟨m, ρ, st, r, v, k.bnd.imp fun x st' m' H' r' e' q => h x st' m' H' r' e' (v.mono e') q⟩
theorem pm_slice {e : Expr} {fa : DE} {lo hi : Option Expr} {fl fh : DO} {pos p2 : Pos} (he : PM A X W e fa) (hl : PMO A X W lo fl) (hu : PMO A X W hi fh) : PM A X W (.Subscript e (.Slice lo hi none p2) pos) (eSl fa fl fh) := by
  refine (pe_slice (SlR.or sl_list sl_tupA) he hl hu).imp fun σ H Q ⟨m, ρ, st, r, v, k⟩ => ?_
  refine tM.thenG r v k fun x u st1 m1 H1 r1 e1 v1 hu1 k1 => ?_
  refine tMO.thenG r1 v1 k1 fun lo st2 m2 H2 r2 e2 v2 k2 => ?_
  refine tMO.thenG r2 v2 k2 fun hi st3 m3 H3 r3 e3 v3 k3 => ?_
  have hx := hu1.mono (e2.trans e3)
  unfold slM at k3
  split at k3
  · cases hx with
    | @tup a xs vs hs hv =>
    refine .inr ⟨a, vs, rfl, hs, fun hw => ?_, fun _ => new_tup r3 (cut_rvs hv _ _) k3⟩
    refine Run.ok k3 .refl r3 _ (.tup hs ?_)
    have e : ∀ {α : Type} (l : List α), (l.drop 0).take (l.length - 0) = l := fun l => by simp
    have := cut_rvs hv lo hi
    unfold cutM
    rw [hv.length, hw.1, hw.2]
    rw [← hv.length, e]
    exact hv
  · cases hx with
    | @ref i a hi =>
    split at k3
    · rename_i xs q
      obtain ⟨vs, hs, hv⟩ := r3.list q hi
      exact .inl ⟨a, vs, rfl, hs, new_lst r3 (cut_rvs hv _ _) k3⟩
    · exact k3.elim
  · exact k3.elim
end
end CS
namespace CS
open PySem PySem.Spec L2

def sb {α : Type} (ρ : MEnv) (r : R α) (f : α → Sto → SR) : SR :=
  match r with
  | none => none
  | some (.error x, st) => some (.exc x, ρ, st)
  | some (.ok a, st) => f a st
section
variable {c : GC} {W : WX} {D : Ends} {σ : L2.St} {m m' : List Addr} {H H' : Hp} {ρ : MEnv} {st : Sto}
theorem SRun.mono (h : SRun c W D m H r) (e : Ext c m H m' H') : SRun c W D m' H' r := by
  match r, h with
  | none, h => exact h
  | some (.nx, ρ, st), h => exact fun m1 H1 s1 e1 r1 v1 => h m1 H1 s1 (e.trans e1) r1 v1
  | some (.rt v, _, st), h => exact fun m1 H1 u e1 r1 v1 => h m1 H1 u (e.trans e1) r1 v1
  | some (.bk, ρ, st), h => exact fun m1 H1 s1 e1 r1 v1 => h m1 H1 s1 (e.trans e1) r1 v1
  | some (.ct, ρ, st), h => exact fun m1 H1 s1 e1 r1 v1 => h m1 H1 s1 (e.trans e1) r1 v1
  | some (.exc x, ρ, st), h => exact fun m1 H1 s1 cls d e1 r1 v1 x1 => h m1 H1 s1 cls d (e.trans e1) r1 v1 x1
theorem SRun.sb {α : Type} {r : R α} {f : α → Sto → SR} (h : SRun c W D m H (CS.sb ρ r f)) (v : REnv c m H ρ σ) : Run c W σ m H r (fun a st m' H' => SRun c W D m' H' (f a st)) := by
  match r, h with
  | none, h => exact h
  | some (.error x, st), h => exact fun m1 H1 cls d e1 r1 x1 => h m1 H1 σ cls d e1 r1 (v.mono e1) x1
  | some (.ok a, st), h => exact fun m1 H1 e1 r1 => SRun.mono h e1
end
abbrev DG := MV → DS
abbrev DGs := List MV → DS
abbrev endN (Q : L2.St → Hp → Prop) : Ends := { nx := Q, rt := fun _ _ => False }
def tMG (c : GC) (W : WX) (g : DG) : TG := fun v σ H Q => ∃ m ρ st x, Rel c m st H ∧ REnv c m H ρ σ ∧ RV c m H x v ∧ SRun c W (endN Q) m H (g x ρ st)
def tMGs (c : GC) (W : WX) (g : DGs) : TGs := fun vs σ H Q => ∃ m ρ st xs, Rel c m st H ∧ REnv c m H ρ σ ∧ RVs c m H xs vs ∧ SRun c W (endN Q) m H (g xs ρ st)
theorem _root_.L2.PG.imp {X : Cx} {e : Expr} {t t' : TG} (h : PG X e t) (q : ∀ v σ H Q, t' v σ H Q → t v σ H Q) : PG X e t' := ⟨fun pins s σ H v u Q I r w => h.run pins s σ H v u Q I r (q _ _ _ _ w)⟩
theorem _root_.L2.PGs.imp {X : Cx} {e : List Expr} {t t' : TGs} (h : PGs X e t) (q : ∀ v σ H Q, t' v σ H Q → t v σ H Q) : PGs X e t' := ⟨fun pins s σ H v u Q I r w => h.run pins s σ H v u Q I r (q _ _ _ _ w)⟩
section
variable {A : AD} {X : Cx} {W : WX} {pos : Pos}
abbrev PMG (A : AD) (X : Cx) (W : WX) (e : Expr) (g : DG) : Prop := PG X e (tMG (gc A X) W g)
abbrev PMGs (A : AD) (X : Cx) (W : WX) (e : List Expr) (g : DGs) : Prop := PGs X e (tMGs (gc A X) W g)
def gNm (i : Nat) : DG := fun x ρ st => some (.nx, ρ.set i (some x), st)
theorem pmg_name {i : Nat} {x : Str} (hN : X.N.Nodup) (hi : X.N[i]? = some x) (hx : Loc X.env.scope x) (hf : X.fn x = true ∨ X.env.scope.names.lookup x = some .local) : PMG A X W (.Name x pos) (gNm i) :=
  (pg_name hN hi hx hf).imp fun v σ H Q ⟨m, ρ, st, x, r, w, hx, k⟩ => k m H _ .refl r (w.set hx)
def gNl : DGs := fun xs ρ st => match xs with | [] => some (.nx, ρ, st) | _ => none
def sqn (r : SR) (f : DS) : SR := match r with | some (.nx, ρ, st) => f ρ st | r => r
def gCn (g : DG) (gs : DGs) : DGs := fun xs ρ st => match xs with | x :: xs => sqn (g x ρ st) (gs xs) | [] => none
theorem pmgs_nil : PMGs A X W [] gNl := pgs_nil.imp fun vs σ H Q ⟨m, ρ, st, xs, r, w, hx, k⟩ => by
  unfold gNl at k
  split at k
  · cases hx
    exact ⟨rfl, k m H σ .refl r w⟩
  · exact k.elim
theorem SRun.sqn {c : GC} {D : Ends} {m : List Addr} {H : Hp} {r : SR} {f : DS} (h : SRun c W D m H (CS.sqn r f)) :
    SRun c W { D with nx := fun σ' H' => ∃ m' ρ' st', Ext c m H m' H' ∧ Rel c m' st' H' ∧ REnv c m' H' ρ' σ' ∧ SRun c W D m' H' (f ρ' st') } m H r := by
  match r, h with
  | none, h => exact h
  | some (.nx, ρ, st), h => exact fun m1 H1 s1 e1 r1 v1 => ⟨m1, ρ, st, e1, r1, v1, SRun.mono (r := f ρ st) h e1⟩
  | some (.rt v, _, st), h => exact h
  | some (.bk, ρ, st), h => exact h
  | some (.ct, ρ, st), h => exact h
  | some (.exc x, ρ, st), h => exact h
theorem pmgs_cons {e : Expr} {es : List Expr} {g : DG} {gs : DGs} (h1 : PMG A X W e g) (h2 : PMGs A X W es gs) (hs : (assignEach (e :: es) X.env).map (·.2) = assign e X.env :: (assignEach es X.env).map (·.2)) : PMGs A X W (e :: es) (gCn g gs) := by
  refine (pgs_cons h1 h2 hs).imp fun vs σ H Q ⟨m, ρ, st, xs, r, w, hx, k⟩ => ?_
  unfold gCn at k
  split at k
  · cases hx with
    | @cons x v xs vs hx hxs =>
    refine ⟨v, vs, rfl, m, ρ, st, _, r, w, hx, ?_⟩
    have k2 := SRun.sqn k
    revert k2
    generalize g _ ρ st = rr
    intro k2
    match rr, k2 with
    | none, h => exact h
    | some (.nx, ρ1, st1), h =>
      intro m1 H1 s1 e1 r1 v1
      obtain ⟨m2, ρ2, st2, e2, r2, v2, q⟩ := h m1 H1 s1 e1 r1 v1
      exact ⟨m2, ρ2, st2, _, r2, v2, hxs.mono e2, q⟩
    | some (.rt v, _, st), h => exact h
    | some (.bk, ρ, st), h => exact h
    | some (.ct, ρ, st), h => exact h
    | some (.exc x, ρ, st), h => exact h
  · exact k.elim
def gTp (gs : DGs) (n : Nat) : DG := fun x ρ st => match x with | .tup xs => if xs.length = n then gs xs ρ st else none | _ => none
theorem pmg_tup {es : List Expr} {k n : Nat} {gs : DGs} (hc : X.calm = true) (h : PMGs A X W es gs) (hn : (assignEach es X.env).length = n) (hst : (assignEach es X.env).findIdx? (·.1) = none) : PMG A X W (.Tuple es k pos) (gTp gs n) := by
  refine (pg_tup hc h hn hst).imp fun v σ H Q ⟨m, ρ, st, x, r, w, hx, k⟩ => ?_
  unfold gTp at k
  split at k
  · cases hx with
    | @tup a xs vs hs hv =>
    split at k
    · rename_i hl
      exact ⟨a, vs, rfl, hs, by rw [← hv.length]; exact hl, m, ρ, st, _, r, w, hv, k⟩
    · exact k.elim
  · exact k.elim
def setM (o i x : MV) (st : Sto) : Option Sto :=
  match o, i with
  | .ref j, .int k => (match st[j]? with
    | some (.lst xs) => (ixN xs.length k).map fun n => st.set j (.lst (xs.set n x))
    | _ => none)
  | _, _ => none
def gSb (fo fi : DE) : DG := fun x ρ st => sb ρ (fo ρ st) fun o st1 => sb ρ (fi ρ st1) fun i st2 => match setM o i x st2 with | some st3 => some (.nx, ρ, st3) | none => none
theorem pmg_sub {o i : Expr} {fo fi : DE} (ho : PM A X W o fo) (hi : PM A X W i fi) (ha : ∀ v, assign (.Subscript o i pos) X.env v = (do
      let ov ← holding [v] (eval o X.env)
      let iv ← holding [v, ov] (eval i X.env)
      standAt pos
      holding [v, ov, iv] (setItem ov iv v)
      release [v, ov, iv] [])) : PMG A X W (.Subscript o i pos) (gSb fo fi) := by
  refine (pg_sub ho hi set_list ha).imp fun v σ H Q ⟨m, ρ, st, x, r, w, hx, k⟩ => ?_
  refine ⟨m, ρ, st, r, w, (SRun.sb k w).imp fun ov st1 m1 H1 r1 e1 k1 u1 hu1 => ?_⟩
  refine ⟨m1, ρ, st1, r1, w.mono e1, (SRun.sb k1 (w.mono e1)).imp fun iv st2 m2 H2 r2 e2 k2 u2 hu2 => ?_⟩
  have ho2 := hu1.mono e2
  have hx2 := hx.mono (e1.trans e2)
  cases q : setM ov iv x st2 with
  | none => simp only [q] at k2; exact k2.elim
  | some st3 =>
    simp only [q] at k2
    unfold setM at q
    split at q
    · cases ho2 with
      | @ref j a hj =>
      cases hu2
      split at q
      · rename_i xs e
        obtain ⟨vs, h1, hv⟩ := r2.lst e hj
        cases q3 : ixN xs.length _ with
        | none => rw [q3] at q; cases q
        | some n =>
          rw [q3] at q
          cases q
          obtain ⟨r3, e3⟩ := r2.setLst e hj (RVs.set hx2 n hv)
          refine ⟨a, vs, _, n, rfl, rfl, h1, by rw [← hv.length]; exact q3, ?_⟩
          exact k2 m2 _ σ e3 r3 (w.mono (e1.trans (e2.trans e3)))
      · cases q
    · cases q
def sNx : DS := fun ρ st => some (.nx, ρ, st)
def sBk : DS := fun ρ st => some (.bk, ρ, st)
def sCt : DS := fun ρ st => some (.ct, ρ, st)
def sSq (f g : DS) : DS := fun ρ st => sqn (f ρ st) g
def sRt (f : DE) : DS := fun ρ st => sb ρ (f ρ st) fun x st1 => some (.rt x, ρ, st1)
def sRn : DS := fun ρ st => some (.rt .non, ρ, st)
def sEx (f : DE) : DS := fun ρ st => sb ρ (f ρ st) fun _ st1 => some (.nx, ρ, st1)
def sIf (p : DB) (f g : DS) : DS := fun ρ st => sb ρ (p ρ st) fun k st1 => if k then f ρ st1 else g ρ st1
def sAs (f : DE) (g : DG) : DS := fun ρ st => sb ρ (f ρ st) fun x st1 => g x ρ st1
def sNo : DS := fun _ _ => none
theorem pms_no {s : Stmt} : PMS A X W s sNo := ps_never.imp fun D σ H ⟨m, ρ, st, r, w, k⟩ => k
theorem pmss_no {s : List Stmt} : PMSs A X W s sNo := pss_never.imp fun D σ H ⟨m, ρ, st, r, w, k⟩ => k
theorem pmss_nil : PMSs A X W [] sNx := pss_nil.imp fun D σ H ⟨m, ρ, st, r, w, k⟩ => k m H σ .refl r w
theorem pms_pass : PMS A X W (.Pass pos) sNx := ps_pass.imp fun D σ H ⟨m, ρ, st, r, w, k⟩ => k m H σ .refl r w
theorem pms_break : PMS A X W (.Break pos) sBk := ps_break.imp fun D σ H ⟨m, ρ, st, r, w, k⟩ => k m H σ .refl r w
theorem pms_cont : PMS A X W (.Continue pos) sCt := ps_continue.imp fun D σ H ⟨m, ρ, st, r, w, k⟩ => k m H σ .refl r w
theorem pms_retN : PMS A X W (.Return none pos) sRn := ps_retN.imp fun D σ H ⟨m, ρ, st, r, w, k⟩ => k m H _ .refl r .non
theorem pms_doc {x j p p'} : PMS A X W (.Expr (.Constant (.str x) j p) p') sNx := ps_doc.imp fun D σ H ⟨m, ρ, st, r, w, k⟩ => k m H σ .refl r w
theorem sRun_sq {c : GC} {D : Ends} {m : List Addr} {H : Hp} {r : SR} {f : DS} (h : SRun c W D m H (sqn r f)) : SRun c W { D with nx := tMS c W f D } m H r := by
  match r, h with
  | none, h => exact h
  | some (.nx, ρ, st), h => exact fun m1 H1 s1 e1 r1 v1 => ⟨m1, ρ, st, r1, v1, SRun.mono (r := f ρ st) h e1⟩
  | some (.rt v, _, st), h => exact h
  | some (.bk, ρ, st), h => exact h
  | some (.ct, ρ, st), h => exact h
  | some (.exc x, ρ, st), h => exact h
theorem pmss_cons {s : Stmt} {rest : List Stmt} {f g : DS} (h1 : PMS A X W s f) (h2 : PMSs A X W rest g) : PMSs A X W (s :: rest) (sSq f g) :=
  (pss_cons h1 h2).imp fun D σ H ⟨m, ρ, st, r, w, k⟩ => ⟨m, ρ, st, r, w, sRun_sq k⟩
theorem pms_ret {e : Expr} {f : DE} (h : PM A X W e f) : PMS A X W (.Return (some e) pos) (sRt f) := by
  refine (ps_ret h).imp fun D σ H ⟨m, ρ, st, r, w, k⟩ => ⟨m, ρ, st, r, w, (SRun.sb k w).imp fun x st1 m1 H1 r1 e1 k1 u hu => ?_⟩
  exact k1 m1 H1 u .refl r1 hu
theorem pms_expr {e : Expr} {f : DE} (h : PM A X W e f) (hs : swapsWith e none pos.line X.env = pure false) : PMS A X W (.Expr e pos) (sEx f) := by
  refine (ps_expr h hs).imp fun D σ H ⟨m, ρ, st, r, w, k⟩ => ⟨m, ρ, st, r, w, (SRun.sb k w).imp fun x st1 m1 H1 r1 e1 k1 u hu => ?_⟩
  exact k1 m1 H1 σ .refl r1 (w.mono e1)
theorem pms_if {t : Expr} {a b : List Stmt} {p : DB} {f g : DS} (hc : PMT A X W t p) (ha : PMSs A X W a f) (hb : PMSs A X W b g) : PMS A X W (.If t a b pos) (sIf p f g) := by
  refine (ps_if hc ha hb).imp fun D σ H ⟨m, ρ, st, r, w, k⟩ => ⟨m, ρ, st, r, w, (SRun.sb k w).imp fun x st1 m1 H1 r1 e1 k1 => ?_⟩
  cases x with
  | true => rw [if_pos rfl]; exact ⟨m1, ρ, st1, r1, w.mono e1, k1⟩
  | false => rw [if_neg Bool.false_ne_true]; exact ⟨m1, ρ, st1, r1, w.mono e1, k1⟩
theorem srun_nx {c : GC} {D : Ends} {m : List Addr} {H : Hp} {r : SR} (hn : ∀ f ρ st, r = some (f, ρ, st) → f = .nx ∨ ∃ x, f = .exc x) (h : SRun c W D m H r) : SRun c W (endN D.nx) m H r := by
  match r, h with
  | none, h => exact h
  | some (.nx, ρ, st), h => exact h
  | some (.rt v, ρ, st), h => rcases hn _ _ _ rfl with z | ⟨_, z⟩ <;> cases z
  | some (.bk, ρ, st), h => rcases hn _ _ _ rfl with z | ⟨_, z⟩ <;> cases z
  | some (.ct, ρ, st), h => rcases hn _ _ _ rfl with z | ⟨_, z⟩ <;> cases z
  | some (.exc x, ρ, st), h => exact h
def Goes (g : DG) : Prop := ∀ x ρ st f ρ' st', g x ρ st = some (f, ρ', st') → f = .nx ∨ ∃ x, f = .exc x
def GoesS (g : DGs) : Prop := ∀ x ρ st f ρ' st', g x ρ st = some (f, ρ', st') → f = .nx ∨ ∃ x, f = .exc x
theorem goes_name {i : Nat} : Goes (gNm i) := fun x ρ st f ρ' st' h => by cases h; exact .inl rfl
theorem sb_end {α : Type} {ρ : MEnv} {r : R α} {f : α → Sto → SR} {fl : Fl} {ρ' : MEnv} {st' : Sto} (h : sb ρ r f = some (fl, ρ', st')) : (∃ x, fl = .exc x) ∨ ∃ a st, f a st = some (fl, ρ', st') := by
  match r, h with
  | some (.error x, st), h => cases h; exact .inl ⟨_, rfl⟩
  | some (.ok a, st), h => exact .inr ⟨a, st, h⟩
theorem goes_sub {fo fi : DE} : Goes (gSb fo fi) := fun x ρ st f ρ' st' h => by
  rcases sb_end h with z | ⟨o, st1, h1⟩
  · exact .inr z
  rcases sb_end h1 with z | ⟨i, st2, h2⟩
  · exact .inr z
  cases q : setM o i x st2 with
  | none => simp only [q] at h2; cases h2
  | some st3 => simp only [q] at h2; cases h2; exact .inl rfl
theorem goes_nil : GoesS gNl := fun x ρ st f ρ' st' h => by
  unfold gNl at h
  split at h
  · cases h; exact .inl rfl
  · cases h
theorem goes_cons {g : DG} {gs : DGs} (h1 : Goes g) (h2 : GoesS gs) : GoesS (gCn g gs) := fun xs ρ st f ρ' st' h => by
  unfold gCn at h
  split at h
  · rename_i x xs
    unfold sqn at h
    split at h
    · exact h2 _ _ _ _ _ _ h
    · exact h1 _ _ _ _ _ _ h
  · cases h
theorem goes_tup {gs : DGs} {n : Nat} (h : GoesS gs) : Goes (gTp gs n) := fun x ρ st f ρ' st' e => by
  unfold gTp at e
  split at e
  · split at e
    · exact h _ _ _ _ _ _ e
    · cases e
  · cases e
theorem pms_asg {tg e : Expr} {f : DE} {g : DG} (he : PM A X W e f) (hg : PMG A X W tg g) (go : Goes g) (hs : swapsWithSole [tg] e pos.line X.env = pure false) (hw : swappedStores [tg] e X.env = pure none) (h1 : (assignEach [tg] X.env).map (·.2) = [assign tg X.env]) :
    PMS A X W (.Assign [tg] e pos) (sAs f g) := by
  refine (ps_asg he hg hs hw h1).imp fun D σ H ⟨m, ρ, st, r, w, k⟩ => ⟨m, ρ, st, r, w, (SRun.sb k w).imp fun x st1 m1 H1 r1 e1 k1 u hu => ?_⟩
  exact ⟨m1, ρ, st1, x, r1, w.mono e1, hu, srun_nx (fun f ρ' st' z => go _ _ _ _ _ _ z) k1⟩
def sPr (i j : Nat) (f : DA) : DS := fun ρ st => sb ρ (f ρ st) fun xs st1 => match xs with | [v, w] => some (.nx, (ρ.set i (some v)).set j (some w), st1) | _ => none
theorem pms_par {i j : Nat} {x y : Str} {a b : Expr} {f : DA} {px py pt : Pos} {kt k2 pt2} (hc : X.calm = true) (hN : X.N.Nodup) (hi : X.N[i]? = some x) (hj : X.N[j]? = some y) (hij : i ≠ j)
    (hx : X.env.scope.names.lookup x = some .local) (hy : X.env.scope.names.lookup y = some .local) (ha : PMA A X W [a, b] f)
    (hw : swappedStores [.Tuple [.Name x px, .Name y py] kt pt] (.Tuple [a, b] k2 pt2) X.env = pure (some [x, y])) (hs : swapsWithSole [.Tuple [.Name x px, .Name y py] kt pt] (.Tuple [a, b] k2 pt2) pos.line X.env = pure false) :
    PMS A X W (.Assign [.Tuple [.Name x px, .Name y py] kt pt] (.Tuple [a, b] k2 pt2) pos) (sPr i j f) := by
  refine (ps_par hc hN hi hj hij hx hy ha hw hs).imp fun D σ H ⟨m, ρ, st, r, w, k⟩ => ⟨m, ρ, st, r, w, (SRun.sb k w).imp fun xs st1 m1 H1 r1 e1 k1 us hus => ?_⟩
  match xs, us, hus, k1 with
  | [v, w'], [u, z], .cons h1 (.cons h2 .nil), k1 => exact ⟨u, z, rfl, k1 m1 H1 _ .refl r1 (((w.mono e1).set h1).set h2)⟩
  | [], _, _, k1 => exact k1.elim
  | [_], _, _, k1 => exact k1.elim
  | _ :: _ :: _ :: _, _, _, k1 => exact k1.elim
def sAu (i : Nat) (f : DE) (g : MV → MV → Sto → R MV) : DS := fun ρ st => match ρ[i]? with
  | some (some x) => sb ρ (f ρ st) fun y st1 => sb ρ (g x y st1) fun z st2 => some (.nx, ρ.set i (some z), st2)
  | _ => none
theorem pms_aug {i : Nat} {x : Str} {e : Expr} {f : DE} {op : Operator} {g : MV → MV → Sto → R MV} {pos' : Pos} (hN : X.N.Nodup) (hi : X.N[i]? = some x) (hx : Loc X.env.scope x) (he : PM A X W e f) (ho : OpM A X W (inplaceOp op) g) (hf : X.fn x = true ∨ X.env.scope.names.lookup x = some .local) :
    PMS A X W (.AugAssign (.Name x pos') op e pos) (sAu i f g) := by
  obtain ⟨r2, h2, q2⟩ := ho
  refine (ps_aug hN hi hx he h2 hf).imp fun D σ H ⟨m, ρ, st, r, w, k⟩ => ?_
  unfold sAu at k
  split at k
  · rename_i y hy
    obtain ⟨u, hu, rv⟩ := w.at_ i y hy
    refine ⟨u, hu, m, ρ, st, r, w, (SRun.sb k w).imp fun z st1 m1 H1 r1 e1 k1 uz hz => ?_⟩
    refine q2 m1 st1 σ H1 y z u uz _ r1 (rv.mono e1) hz ((SRun.sb k1 (w.mono e1)).imp fun v st2 m2 H2 r2 e2 k2 uv hv => ?_)
    exact k2 m2 H2 _ .refl r2 ((w.mono (e1.trans e2)).set hv)
  · exact k.elim
def whileM (p : DB) (b : DS) : Nat → DS
  | 0, _, _ => none
  | n + 1, ρ, st => sb ρ (p ρ st) fun k st1 => if k then
      (match b ρ st1 with
        | some (.nx, ρ', st') => whileM p b n ρ' st'
        | some (.ct, ρ', st') => whileM p b n ρ' st'
        | some (.bk, ρ', st') => some (.nx, ρ', st')
        | r => r)
    else some (.nx, ρ, st1)
def fuelN : Nat := 2 ^ 250 * 2 ^ 250 * 2 ^ 250 * 2 ^ 250
def sWh (p : DB) (b : DS) : DS := whileM p b fuelN
theorem pms_while {t : Expr} {body : List Stmt} {p : DB} {b : DS} (hp : PassesOwn (model X.prog X.w) X.A X.env X.xe) (hc : PMT A X W t p) (hb : PMSs A X W body b) : PMS A X W (.While t body [] pos) (sWh p b) := by
  refine (ps_while hp hc hb).imp fun D σ H ⟨m, ρ, st, r, w, k⟩ => ?_
  refine ⟨fun n σ H => ∃ m ρ st, Rel (gc A X) m st H ∧ REnv (gc A X) m H ρ σ ∧ SRun (gc A X) W D m H (whileM p b n ρ st), ⟨_, m, ρ, st, r, w, k⟩, ?_⟩
  rintro n σ1 H1 ⟨m1, ρ1, st1, r1, w1, k1⟩
  cases n with
  | zero => exact k1.elim
  | succ n =>
    refine ⟨m1, ρ1, st1, r1, w1, (SRun.sb k1 w1).imp fun x st2 m2 H2 r2 e2 k2 => ?_⟩
    cases x with
    | false =>
      rw [if_neg Bool.false_ne_true]
      exact k2 m2 H2 σ1 .refl r2 (w1.mono e2)
    | true =>
      rw [if_pos rfl]
      simp only [if_true] at k2
      refine ⟨fun σ H => ∃ m ρ st, Rel (gc A X) m st H ∧ REnv (gc A X) m H ρ σ ∧ SRun (gc A X) W D m H (whileM p b n ρ st), fun σ' H' h => ⟨n, Nat.lt_succ_self n, h⟩, m2, ρ1, st2, r2, w1.mono e2, ?_⟩
      revert k2
      generalize b ρ1 st2 = rr
      intro k2
      match rr, k2 with
      | none, h => exact h
      | some (.nx, ρ', st'), h => exact fun m3 H3 s3 e3 r3 v3 => ⟨m3, ρ', st', r3, v3, SRun.mono (r := whileM p b n ρ' st') h e3⟩
      | some (.rt v, ρ', st'), h => exact h
      | some (.bk, ρ', st'), h => exact h
      | some (.ct, ρ', st'), h => exact fun m3 H3 s3 e3 r3 v3 => ⟨m3, ρ', st', r3, v3, SRun.mono (r := whileM p b n ρ' st') h e3⟩
      | some (.exc x, ρ', st'), h => exact h
end
end CS
namespace CS
open PySem PySem.Spec L2
inductive SK where | l | t
def skSq : SK → PySem.W.Frag → Hp → Addr → List V → Prop
  | .l, K, H, a, xs => SqL K H a xs
  | .t, K, H, a, xs => SqT K H a xs
def skObj : SK → Addr → Obj
  | .l, a => { cls := .type "list_iterator", data := .fields #[.ref a, .int 0 0] }
  | .t, a => { cls := .type "tuple_iterator", data := .fields #[.ref a, .int 0 0] }
def skIt : SK → Heap → Addr → Addr → Nat → Prop
  | .l, h, it, a, i => h.IsListIter it a i
  | .t, h, it, a, i => h.IsTupleIter it a i
def skAt : SK → Heap → Addr → Array Value → Prop
  | .l, h, a, its => h.IsList a its
  | .t, h, a, its => h.IsTuple a its
theorem sk_draws (k : SK) {prog : Program} {w : World} {A : Around} (hh : A.handled = none) (it a : Addr) (hne : a ≠ it) (its : Array Value) :
    Draws prog w A it [it, a] its.size (fun i v => its[i]? = some v) (fun i h => skIt k h it a i ∧ skAt k h a its) := by
  cases k
  · exact Draws.list hh it a hne its
  · exact Draws.tuple hh it a hne its
theorem sk_begins (k : SK) (a : Addr) (its : Array Value) : Begins (.ref a) (skObj k a) fun h => skAt k h a its := by
  cases k
  · exact begins_list a its
  · exact begins_tuple a its
theorem sk_start (k : SK) {h : Heap} {it a : Addr} (e : h.get? it = some (skObj k a)) : skIt k h it a 0 := by
  cases k
  · exact ⟨_, e, rfl, rfl⟩
  · exact ⟨_, e, rfl, rfl⟩
theorem skIt.obj {k : SK} {h : Heap} {it a : Addr} {i : Nat} (x : skIt k h it a i) : ∃ o, h.get? it = some o ∧ ∀ v, o.data ≠ .cell v := by
  cases k
  · obtain ⟨o, e, _, d⟩ := x; exact ⟨o, e, fun v z => by rw [d] at z; cases z⟩
  · obtain ⟨o, e, _, d⟩ := x; exact ⟨o, e, fun v z => by rw [d] at z; cases z⟩
theorem skIt.at' {k : SK} {h h' : Heap} {it a : Addr} {i : Nat} (x : skIt k h it a i) (e : ∀ o, h.get? it = some o → h'.get? it = some o) : skIt k h' it a i := by
  cases k
  · obtain ⟨o, q, r⟩ := x; exact ⟨o, e _ q, r⟩
  · obtain ⟨o, q, r⟩ := x; exact ⟨o, e _ q, r⟩
theorem sk_read {X : Cx} {pins : List (Addr × Obj)} {σ : L2.St} {H : Hp} {s : Shared} (I : Inv X pins σ H s) (k : SK) {a : Addr} {xs : List V} (h : skSq k X.K H a xs) :
    ∃ its : List Value, Vals xs its ∧ skAt k s.heap a its.toArray := by
  cases k
  · obtain ⟨its, r, p, _⟩ := I.list h; exact ⟨its, r, p.isList⟩
  · obtain ⟨its, r, p, _⟩ := I.tuple h; exact ⟨its, r, p⟩
theorem sk_inj {X : Cx} {pins : List (Addr × Obj)} {σ : L2.St} {H : Hp} {s : Shared} (I : Inv X pins σ H s) (k : SK) {a : Addr} {xs ys : List V} (h : skSq k X.K H a xs) (h' : skSq k X.K H a ys) : xs = ys := by
  cases k
  · exact I.list_inj h h'
  · exact I.tuple_inj h h'
theorem skAt.lt {k : SK} {h : Heap} {a : Addr} {its : Array Value} (x : skAt k h a its) : a < h.objs.size := by
  cases k
  · obtain ⟨o, e, _⟩ := x; exact Heap.lt_size e
  · obtain ⟨o, e, _⟩ := x; exact Heap.lt_size e
def ItE (k : SK) (K : PySem.W.Frag) (a : Addr) : It :=
  ⟨fun i H => ∃ (xs : List V) (x : V), skSq k K H a xs ∧ xs[i]? = some x,
   fun i H v H' => ∃ T x, v = .ref T ∧ H T = none ∧ H' = upd H T (.tup [.int (i : Nat), x]) ∧ ∀ xs, skSq k K H a xs → xs[i]? = some x,
   fun i H => ∃ xs : List V, skSq k K H a xs ∧ xs.length = i⟩
def tnE (k : SK) (a e it : Addr) (i : Nat) (h : Heap) : Prop := (∃ old, IsEnum h e it ((i : Nat) : Int) old) ∧ skIt k h it a i ∧ e ≠ it ∧ e ≠ a ∧ a ≠ it
theorem turnE {P : Program} {w : World} {K : PySem.W.Frag} {elts : List Expr} {kk : Nat} {tpos : Pos} (k : SK) (a e it : Addr) : Turn P w K (.Tuple elts kk tpos) (ItE k K a) [e, it] e (tnE k a e it) := by
  refine ⟨by simp, fun i h st b hb => ?_, fun i h h' st kp => ?_, ?_, ?_, ?_⟩
  · obtain ⟨⟨old, he⟩, hi, _⟩ := st
    rcases (show b = e ∨ b = it by simpa using hb) with z | z
    · subst z; exact ⟨_, he, fun v q => nomatch q⟩
    · subst z; exact hi.obj
  · obtain ⟨⟨old, he⟩, hi, hne⟩ := st
    exact ⟨⟨old, kp e (by simp) _ he⟩, hi.at' fun o q => kp it (by simp) o q, hne⟩
  · intro X hP hw hK hc i pins s σ H E I hf st hg
    subst hP hw hK
    obtain ⟨⟨old, he⟩, hit, h1, h2, h3⟩ := st
    obtain ⟨xs, x, hq, hx⟩ := hg
    obtain ⟨its, rv, p⟩ := sk_read I k hq
    obtain ⟨u, hu, ru⟩ := rv.get hx
    have el : e < s.heap.objs.size := Heap.lt_size he
    have il : it < s.heap.objs.size := by obtain ⟨o, q, _⟩ := hit.obj; exact Heap.lt_size q
    have D := sk_draws k (prog := X.prog) (w := X.w) (A := X.A.in1) (I.ok.hd hc) it a h3 its.toArray
    have hil : i < its.toArray.size := by have := (List.getElem?_eq_some_iff.mp hu).1; simpa using this
    refine wpAny_pyNext_enum_itemD D he ⟨hit, p⟩ hil h1 (by simp [h1, h2]) fun y h' tk hy ho hst hT hsz hk => ?_
    have ey : y = u := by
      rw [List.getElem?_toArray, hu] at hy
      exact (Option.some.inj hy).symm
    subst ey
    refine ⟨_, rfl, wpAny_letOwnedTupleGo_enum (s := { s with heap := h', toks := tk + 1 }) ho fun h'' he' sb => ?_⟩
    have hT2 := (sb.2 _ (Nat.ne_of_gt el)).trans hT
    have hin : ∀ b ∈ [e, it], b = e ∨ b = it := fun b hb => by simpa using hb
    have new : ObjOk X.prog X.w (upd H s.heap.objs.size (.tup [.int (i : Nat), x])) h'' s.heap.objs.size (.tup [.int (i : Nat), x]) :=
      ⟨(by decide : 2 ≤ sizeLine), [.int i tk, y], .cons ⟨_, rfl⟩ (.cons ru .nil), _, hT2, rfl, _, rfl⟩
    have I1 : Inv X pins σ (upd H s.heap.objs.size (.tup [.int (i : Nat), x])) { s with heap := h'', toks := tk + 1 } :=
      I.turnedNew (ch := [e, it]) (fun b ob hb q => (sb.2 b fun z => hb (by simp [z])).trans (hk b ob (fun z => hb (by simp [z])) (fun z => hb (by simp [z])) q)) hf (Nat.le_refl _) new
    refine ⟨.ref s.heap.objs.size, _, I1, rfl, ⟨_, x, rfl, I.hok.fresh (Nat.le_refl _), rfl, fun ys hy => by rw [sk_inj I k hy hq]; exact hx⟩, ⟨⟨y, ?_⟩, hst.1.at' fun o q => (sb.2 it (Ne.symm h1)).trans q, h1, h2, h3⟩, fun b hb => ?_⟩
    · rw [show ((i + 1 : Nat) : Int) = (i : Int) + 1 by omega]; exact he'
    · have hb' : b < s.heap.objs.size := by rcases hin b hb with z | z <;> rw [z] <;> assumption
      rw [upd_ne (Nat.ne_of_lt hb')]
      exact (hf b hb).1
  · intro X hP hw hK hc i pins s σ H E I hf st hg
    subst hP hw hK
    obtain ⟨⟨old, he⟩, hit, h1, h2, h3⟩ := st
    obtain ⟨xs, hq, hx⟩ := hg
    obtain ⟨its, rv, p⟩ := sk_read I k hq
    obtain ⟨f0, f1, f2, f3, f4, f5⟩ := hf it (by simp)
    have D := sk_draws k (prog := X.prog) (w := X.w) (A := X.A.in1) (I.ok.hd hc) it a h3 its.toArray
    have hn : its.toArray.size = i := by have := rv.length; simp; omega
    exact wpAny_pyNext_enum_endD D he (by rw [hn]; exact ⟨hit, p⟩) fun h' eb => ⟨rfl, I.turned (t' := s.toks) (fun b o hb q => eb b o hb q) f0 f1 f3 f4 f5⟩
  · exact fun A i s Q E st h => by obtain ⟨⟨_, he⟩, _⟩ := st; exact wpAny_pyIter_enum he h
def ItZ (k1 k2 : SK) (K : PySem.W.Frag) (a b : Addr) : It :=
  ⟨fun i H => ∃ (xs ys : List V) (x y : V), skSq k1 K H a xs ∧ skSq k2 K H b ys ∧ xs[i]? = some x ∧ ys[i]? = some y,
   fun i H v H' => ∃ T x y, v = .ref T ∧ H T = none ∧ H' = upd H T (.tup [x, y]) ∧ (∀ xs, skSq k1 K H a xs → xs[i]? = some x) ∧ ∀ ys, skSq k2 K H b ys → ys[i]? = some y,
   fun i H => ∃ xs ys : List V, skSq k1 K H a xs ∧ skSq k2 K H b ys ∧ i = min xs.length ys.length⟩
structure Apart (z TI TO i1 i2 a b : Addr) : Prop where
  sep : ZipSep2 z TI TO i1 i2 [i1, a] [i2, b]
  a1 : a ≠ i1
  b2 : b ≠ i2
def tnZ (k1 k2 : SK) (a b z TI TO i1 i2 : Addr) (i : Nat) (h : Heap) : Prop :=
  IsZip h z TI TO .none ∧ IsTupOf2 h TI (.ref i1) (.ref i2) ∧ (∃ x y, IsTupOf2 h TO x y) ∧ skIt k1 h i1 a i ∧ skIt k2 h i2 b i
theorem turnZ {P : Program} {w : World} {K : PySem.W.Frag} {elts : List Expr} {kk : Nat} {tpos : Pos} (k1 k2 : SK) {a b z TI TO i1 i2 : Addr} (ap : Apart z TI TO i1 i2 a b) :
    Turn P w K (.Tuple elts kk tpos) (ItZ k1 k2 K a b) [z, TI, TO, i1, i2] z (tnZ k1 k2 a b z TI TO i1 i2) := by
  have inn : ∀ c ∈ [z, TI, TO, i1, i2], c = z ∨ c = TI ∨ c = TO ∨ c = i1 ∨ c = i2 := fun c hc => by simpa using hc
  refine ⟨by simp, fun i h st c hc => ?_, fun i h h' st kp => ?_, ?_, ?_, ?_⟩
  · obtain ⟨hz, hTI, ⟨x, y, hTO⟩, q1, q2⟩ := st
    rcases inn c hc with q | q | q | q | q <;> subst q
    · exact ⟨_, hz, fun v q => nomatch q⟩
    · exact ⟨_, hTI, fun v q => nomatch q⟩
    · exact ⟨_, hTO, fun v q => nomatch q⟩
    · exact q1.obj
    · exact q2.obj
  · obtain ⟨hz, hTI, ⟨x, y, hTO⟩, q1, q2⟩ := st
    exact ⟨kp z (by simp) _ hz, kp TI (by simp) _ hTI, ⟨x, y, kp TO (by simp) _ hTO⟩, q1.at' fun o q => kp i1 (by simp) o q, q2.at' fun o q => kp i2 (by simp) o q⟩
  · intro X hP hw hK hc i pins s σ H E I hf st hg
    subst hP hw hK
    obtain ⟨hz, hTI, ⟨x0, y0, hTO⟩, q1, q2⟩ := st
    obtain ⟨xs, ys, x, y, hqx, hqy, hx, hy⟩ := hg
    obtain ⟨its, rv, p⟩ := sk_read I k1 hqx
    obtain ⟨its2, rv2, p2⟩ := sk_read I k2 hqy
    obtain ⟨u, hu, ru⟩ := rv.get hx
    obtain ⟨u2, hu2, ru2⟩ := rv2.get hy
    have zl : z < s.heap.objs.size := Heap.lt_size hz
    have D1 := sk_draws k1 (prog := X.prog) (w := X.w) (A := X.A.in1) (I.ok.hd hc) i1 a ap.a1 its.toArray
    have D2 := sk_draws k2 (prog := X.prog) (w := X.w) (A := X.A.in1) (I.ok.hd hc) i2 b ap.b2 its2.toArray
    have l1 : i < its.toArray.size := by have := (List.getElem?_eq_some_iff.mp hu).1; simpa using this
    have l2 : i < its2.toArray.size := by have := (List.getElem?_eq_some_iff.mp hu2).1; simpa using this
    refine wpAny_pyNext_zipD2_item ap.sep D1 D2 hz hTI hTO ⟨q1, p⟩ ⟨q2, p2⟩ l1 l2 fun v1 v2 h' tk hv1 hv2 z' TO' s1 s2 hT hsz hk => ?_
    have e1 : v1 = u := by rw [List.getElem?_toArray, hu] at hv1; exact (Option.some.inj hv1).symm
    have e2 : v2 = u2 := by rw [List.getElem?_toArray, hu2] at hv2; exact (Option.some.inj hv2).symm
    subst e1 e2
    refine ⟨_, rfl, wpAny_letOwnedTupleGo_zip (s := { s with heap := h', toks := tk }) z' fun h'' z'' sb => ?_⟩
    have hT2 := (sb.2 _ (Nat.ne_of_gt zl)).trans hT
    have new : ObjOk X.prog X.w (upd H s.heap.objs.size (.tup [x, y])) h'' s.heap.objs.size (.tup [x, y]) :=
      ⟨(by decide : 2 ≤ sizeLine), [v1, v2], .cons ru (.cons ru2 .nil), _, hT2, rfl, _, rfl⟩
    have ne5 : ∀ c, c ∉ [z, TI, TO, i1, i2] → c ≠ z ∧ c ≠ TI ∧ c ≠ TO ∧ c ≠ i1 ∧ c ≠ i2 := fun c hc => by simpa using hc
    have I1 : Inv X pins σ (upd H s.heap.objs.size (.tup [x, y])) { s with heap := h'', toks := tk } :=
      I.turnedNew (ch := [z, TI, TO, i1, i2]) (fun c o hb q => (sb.2 c (ne5 c hb).1).trans (hk c o (ne5 c hb).1 (ne5 c hb).2.2.1 (ne5 c hb).2.2.2.1 (ne5 c hb).2.2.2.2 q)) hf (Nat.le_refl _) new
    refine ⟨.ref s.heap.objs.size, _, I1, rfl, ⟨_, x, y, rfl, I.hok.fresh (Nat.le_refl _), rfl, fun l hl => by rw [sk_inj I k1 hl hqx]; exact hx, fun l hl => by rw [sk_inj I k2 hl hqy]; exact hy⟩,
      ⟨z'', (sb.2 _ ap.sep.TIz).trans (hk _ _ ap.sep.TIz ap.sep.TITO ap.sep.TIi1 ap.sep.TIi2 hTI), ⟨v1, v2, (sb.2 _ ap.sep.TOz).trans TO'⟩, s1.1.at' fun o q => (sb.2 _ (Ne.symm ap.sep.zi1)).trans q, s2.1.at' fun o q => (sb.2 _ (Ne.symm ap.sep.zi2)).trans q⟩, fun c hcm => ?_⟩
    have hlt : c < s.heap.objs.size := by
      rcases inn c hcm with q | q | q | q | q <;> rw [q]
      · exact zl
      · exact Heap.lt_size hTI
      · exact Heap.lt_size hTO
      · obtain ⟨_, e, _⟩ := q1.obj; exact Heap.lt_size e
      · obtain ⟨_, e, _⟩ := q2.obj; exact Heap.lt_size e
    rw [upd_ne (Nat.ne_of_lt hlt)]
    exact (hf c hcm).1
  · intro X hP hw hK hc i pins s σ H E I hf st hg
    subst hP hw hK
    obtain ⟨hz, hTI, ⟨x0, y0, hTO⟩, q1, q2⟩ := st
    obtain ⟨xs, ys, hqx, hqy, hend⟩ := hg
    obtain ⟨its, rv, p⟩ := sk_read I k1 hqx
    obtain ⟨its2, rv2, p2⟩ := sk_read I k2 hqy
    have D1 := sk_draws k1 (prog := X.prog) (w := X.w) (A := X.A.in1) (I.ok.hd hc) i1 a ap.a1 its.toArray
    have D2 := sk_draws k2 (prog := X.prog) (w := X.w) (A := X.A.in1) (I.ok.hd hc) i2 b ap.b2 its2.toArray
    have l1 := rv.length
    have l2 := rv2.length
    have n1 : its.toArray.size = xs.length := by simp [l1]
    have n2 : its2.toArray.size = ys.length := by simp [l2]
    have ne5 : ∀ c, c ∉ [z, TI, TO, i1, i2] → c ≠ z ∧ c ≠ TI ∧ c ≠ TO ∧ c ≠ i1 ∧ c ≠ i2 := fun c hc => by simpa using hc
    exact wpAny_pyNext_zipD2_end ap.sep D1 D2 hz hTI hTO ⟨q1, p⟩ ⟨q2, p2⟩ (by omega) (by omega) (by omega) fun h' tk hk => ⟨rfl, I.turnedL (t' := tk) (ch := [z, TI, TO, i1, i2]) (fun c o hb q =>
      hk c o (ne5 c hb).1 (ne5 c hb).2.2.1 (ne5 c hb).2.2.2.1 (ne5 c hb).2.2.2.2 q) hf⟩
  · exact fun A i s Q E st h => wpAny_pyIter_zip st.1 h
open AutoSeq1 in
theorem en_newT (a : Addr) (its : Array Value) (n : Nat) (dct : Option Addr) (sl : Array (Option Value)) :
    Meets (Builtin.«enumerate.__new__» ⟨[.type "enumerate", .ref a], []⟩) (fun _ K s => s.heap.get? a = some { cls := .type "tuple", dict := dct, data := .seq its n, slots := sl } ∧
      K (.ok (.ret (.ref (s.heap.push (skObj .t a)).objs.size)))
        { s with heap := (s.heap.push (skObj .t a)).push { cls := .type "enumerate", data := .fields #[.none, .bool false, .ref s.heap.objs.size, rawInt 0, .none, .none] } }) := by
  refine Meets.of_wp fun prog w A K s h => ?_
  obtain ⟨hp, gg, dd, tk, os⟩ := s
  obtain ⟨hl, h⟩ := h
  have hsub := sub_enumerate
  have hT : Heap.IsTuple (Shared.heap ⟨hp, gg, dd, tk, os⟩) a its := ⟨_, hl, rfl, n, rfl⟩
  wp_walk using wpAny_loadPart' hl
  refine wpAny_stack_any fun sk => wpAny_pure ?_
  split
  · rename_i c _ _ _ _ _
    cases (c == Value.type "enumerate") <;>
    · wp_walk using wpAny_loadPart' hl, wpAny_pyIter_tuple hT
      exact ⟨_, rfl, h⟩
  · wp_walk using wpAny_loadPart' hl, wpAny_pyIter_tuple hT
    exact ⟨_, rfl, h⟩
theorem call_enum_sk {prog : Program} {w : World} {A : Around} {E : Value → Shared → Prop} {s : Shared} (k : SK) {a : Addr} {its : Array Value} {Q : Value → Shared → Prop} (hL : skAt k s.heap a its)
    (h : ∀ h', IsEnum h' (s.heap.objs.size + 1) s.heap.objs.size ((0 : Nat) : Int) .none → skIt k h' s.heap.objs.size a 0 → h'.objs.size = s.heap.objs.size + 2 →
      (∀ b o, s.heap.get? b = some o → h'.get? b = some o) → Q (.ref (s.heap.objs.size + 1)) { s with heap := h' }) :
    wpAny (model prog w) A (call (.type "enumerate") [.ref a]) Q E s := by
  cases k with
  | l => exact call_enumerate_list hL fun h' e i z kk => h h' e i z kk
  | t =>
    obtain ⟨⟨c, dct, dt, sl⟩, hl, hc, n, hd⟩ := hL
    replace hc : c = .type "tuple" := hc
    replace hd : dt = .seq its n := hd
    subst hc hd
    refine callType_new F.called_enumerate (by decide) (F.typeCall_enumerate_1 _) (F.newCall_enumerate_1 _) (fun obj => F.args_object_init_2 obj _) F.entry_enumerate_new (en_newT a its n dct sl) ⟨hl, ?_⟩
    have sz : (s.heap.push (skObj .t a)).objs.size = s.heap.objs.size + 1 := Heap.size_push ..
    have top := Heap.get?_push_size (s.heap.push (skObj .t a)) (o := { cls := .type "enumerate", data := .fields #[.none, .bool false, .ref s.heap.objs.size, rawInt 0, .none, .none] }) rfl
    show _ ∧ _
    rw [sz] at top ⊢
    exact ⟨⟨_, top, rfl⟩, h _ top ⟨_, Heap.get?_push_of_some _ (Heap.get?_push_size _ rfl), rfl, rfl⟩ (by rw [Heap.size_push, sz]) fun b o x => Heap.get?_push_of_some _ (Heap.get?_push_of_some _ x)⟩
section
variable {X : Cx} {tg : Expr}
def iSeq (K : PySem.W.Frag) (tl : TE) : TI := fun σ H R => tl σ H fun x H1 => ∃ a, x = .ref a ∧ (((∃ xs, SqL K H1 a xs) ∧ R (Itl K a) H1) ∨ ((∃ xs, SqT K H1 a xs) ∧ R (Itt K a) H1))
theorem pi_seq {e : Expr} {tl : TE} (hl : PE X e tl) : PI X tg e (iSeq X.K tl) := by
  refine ⟨fun pins s σ H R I h => ?_⟩
  refine thn (hl.run pins s σ H _ I h) fun v s1 ⟨x, H1, I1, r1, q1⟩ => ?_
  obtain ⟨a, ex, q⟩ := q1
  subst ex
  cases r1
  have fr : ∀ b ∈ [s1.heap.objs.size], FpOk X pins H1 b := fun b hb => by
    have z : b = s1.heap.objs.size := by simpa using hb
    subst z
    exact I1.fpOk (Nat.le_refl _) (I1.hok.fresh (Nat.le_refl _))
  rcases q with ⟨⟨xs, hq⟩, q⟩ | ⟨⟨xs, hq⟩, q⟩
  · obtain ⟨its, rv, p, _⟩ := I1.list hq
    refine wpAny_pyIter_list p.isList ⟨s1.heap.objs.size, [s1.heap.objs.size], _, _, H1, rfl, I1.kept (t' := s1.toks) fun b o z => Heap.get?_push_of_some _ z, turn_list a _, ⟨_, Heap.get?_push_size _ rfl, rfl, rfl⟩, fr, q⟩
  · obtain ⟨its, rv, p, _⟩ := I1.tuple hq
    refine wpAny_pyIter_tuple (show s1.heap.IsTuple a its.toArray from p) ⟨s1.heap.objs.size, [s1.heap.objs.size], _, _, H1, rfl, I1.kept (t' := s1.toks) fun b o z => Heap.get?_push_of_some _ z, turn_tuple a _, ⟨_, Heap.get?_push_size _ rfl, rfl, rfl⟩, fr, q⟩
def iEnA (K : PySem.W.Frag) (ta : TA) : TI := fun σ H R => ta σ H fun vs H1 => ∃ a xs k, vs = [.ref a] ∧ skSq k K H1 a xs ∧ R (ItE k K a) H1
theorem pi_enA {e : Expr} {ta : TA} {p pos tpos : Pos} {elts : List Expr} {kk : Nat} (hg : Gl X "enumerate") (hm : X.mg "enumerate" = none) (ha : PA X [e] ta) (hs : starEach [e] X.env = [(false, eval e X.env)]) :
    PI X (.Tuple elts kk tpos) (.Call (.Name "enumerate" p) [e] [] pos) (iEnA X.K ta) := by
  refine ⟨fun pins s σ H R I h => ?_⟩
  refine PyProof.Rows.Call_ (ld_blt I hg hm PyProof.Rows.boot_enumerate (PyProof.Rows.callWith_type1 (thn (ha.run pos pins s σ H _ I h) fun us s1 ⟨vs, H1, I1, r1, q1⟩ => ?_) hs rfl))
  obtain ⟨a, xs, k, ex, hq, q⟩ := q1
  subst ex
  obtain ⟨u, rfl, ru⟩ := vals1 r1
  cases ru
  obtain ⟨its, rv, pa⟩ := sk_read I1 k hq
  have al := pa.lt
  refine call_enum_sk k pa fun h' he hi hsz hk => wpAny_pyIter_enum he ?_
  have hle : ∀ b ∈ [s1.heap.objs.size + 1, s1.heap.objs.size], s1.heap.objs.size ≤ b := fun b hb => by
    rcases (show b = s1.heap.objs.size + 1 ∨ b = s1.heap.objs.size by simpa using hb) with z | z <;> omega
  refine ⟨s1.heap.objs.size + 1, [s1.heap.objs.size + 1, s1.heap.objs.size], _, _, H1, rfl, I1.kept (t' := s1.toks) hk, turnE k a _ _, ⟨⟨_, he⟩, hi, Nat.succ_ne_self _, Nat.ne_of_gt (Nat.lt_succ_of_lt al), Nat.ne_of_lt al⟩, fun b hb => I1.fpOk (hle b hb) (I1.hok.fresh (hle b hb)), q⟩
def iZpA (K : PySem.W.Frag) (ta : TA) : TI := fun σ H R => ta σ H fun vs H1 => ∃ a b xs ys k1 k2, vs = [.ref a, .ref b] ∧ skSq k1 K H1 a xs ∧ skSq k2 K H1 b ys ∧ R (ItZ k1 k2 K a b) H1
theorem pi_zpA {e e2 : Expr} {ta : TA} {p pos tpos : Pos} {elts : List Expr} {kk : Nat} (hg : Gl X "zip") (hm : X.mg "zip" = none) (ha : PA X [e, e2] ta) (hs : starEach [e, e2] X.env = (false, eval e X.env) :: starEach [e2] X.env) (hpl : (backTo pos (starEach [e2] X.env)).any (·.1) = false) :
    PI X (.Tuple elts kk tpos) (.Call (.Name "zip" p) [e, e2] [] pos) (iZpA X.K ta) := by
  refine ⟨fun pins s σ H R I h => ?_⟩
  refine PyProof.Rows.Call_ (ld_blt I hg hm PyProof.Rows.boot_zip (PyProof.Rows.callWith_type1 (thn (ha.run pos pins s σ H _ I h) fun us s1 ⟨vs, H1, I1, r1, q1⟩ => ?_) hs hpl))
  obtain ⟨a, b, xs, ys, k1, k2, ex, hq, hq2, q⟩ := q1
  subst ex
  obtain ⟨u, v, rfl, ru, rv⟩ := vals2 r1
  cases ru
  cases rv
  obtain ⟨its, ra, pa⟩ := sk_read I1 k1 hq
  obtain ⟨its2, rb, pb⟩ := sk_read I1 k2 hq2
  have al := pa.lt
  have bl := pb.lt
  refine zip_begins2 (sk_begins k1 a its.toArray) (sk_begins k2 b its2.toArray) pa pb fun h' hz hTI hTO h1 h2 hsz hk => wpAny_pyIter_zip hz ?_
  have ap : Apart (s1.heap.objs.size + 4) (s1.heap.objs.size + 2) (s1.heap.objs.size + 3) s1.heap.objs.size (s1.heap.objs.size + 1) a b :=
    ⟨zip_sep2 (fp1 := [a]) (fp2 := [b]) (fun c hc => by rw [List.mem_singleton] at hc; rw [hc]; exact al) (fun c hc => by rw [List.mem_singleton] at hc; rw [hc]; exact bl), Nat.ne_of_lt al, Nat.ne_of_lt (Nat.lt_succ_of_lt bl)⟩
  have hle : ∀ c ∈ [s1.heap.objs.size + 4, s1.heap.objs.size + 2, s1.heap.objs.size + 3, s1.heap.objs.size, s1.heap.objs.size + 1], s1.heap.objs.size ≤ c := fun c hc => by
    rcases (show c = s1.heap.objs.size + 4 ∨ c = s1.heap.objs.size + 2 ∨ c = s1.heap.objs.size + 3 ∨ c = s1.heap.objs.size ∨ c = s1.heap.objs.size + 1 by simpa using hc) with z | z | z | z | z <;> omega
  exact ⟨_, _, _, _, H1, rfl, I1.kept (t' := s1.toks) hk, turnZ k1 k2 ap, ⟨hz, hTI, ⟨_, _, hTO⟩, sk_start k1 h1, sk_start k2 h2⟩, fun c hc => I1.fpOk (hle c hc) (I1.hok.fresh (hle c hc)), q⟩
end
end CS
namespace CS
open PySem PySem.Spec L2
inductive IS where | l (j n : Nat) | t (xs : List MV)
inductive IM where | sq (s : IS) | rng (lo : Int) (n : Nat) | en (s : IS) | zp (s s' : IS)
def IS.len : IS → Nat
  | .l _ n => n
  | .t xs => xs.length
def IS.get : IS → Nat → Sto → Option MV
  | .l j n, k, st => match listOf st j with | some xs => if xs.length = n then xs[k]? else none | none => none
  | .t xs, k, _ => xs[k]?
def IS.fin : IS → Sto → Bool
  | .l j n, st => match listOf st j with | some xs => decide (xs.length = n) | none => false
  | .t _, _ => true
def IM.cnt : IM → Nat
  | .sq s => s.len
  | .rng _ n => n
  | .en s => s.len
  | .zp s s' => min s.len s'.len
def IM.get : IM → Nat → Sto → Option MV
  | .sq s, k, st => s.get k st
  | .rng lo n, k, _ => if k < n then some (.int (lo + k)) else none
  | .en s, k, st => (s.get k st).map fun x => .tup [.int k, x]
  | .zp s s', k, st => match s.get k st, s'.get k st with | some x, some y => some (.tup [x, y]) | _, _ => none
def IM.fin : IM → Sto → Bool
  | .sq s, st => s.fin st
  | .rng _ _, _ => true
  | .en s, st => s.fin st
  | .zp s s', st => s.fin st && s'.fin st
def IS.sk : IS → SK
  | .l _ _ => .l
  | .t _ => .t
def IS.at (c : GC) (m : List Addr) (H : Hp) (a : Addr) : IS → Prop
  | .l j _ => m[j]? = some a
  | .t xs => ∃ vs, SqT c.K H a vs ∧ RVs c m H xs vs
section
variable {c : GC} {m m' : List Addr} {st : Sto} {H H' : Hp} {a : Addr} {s : IS}
theorem IS.at.mono (h : s.at c m H a) (e : Ext c m H m' H') : s.at c m' H' a := by
  cases s with
  | l j n => exact e.at h
  | t xs => obtain ⟨vs, h1, h2⟩ := h; exact ⟨vs, e.tup _ _ h1, h2.mono e⟩
theorem IS.at.get (h : s.at c m H a) (r : Rel c m st H) {k : Nat} {x : MV} (g : s.get k st = some x) : ∃ vs u, skSq s.sk c.K H a vs ∧ vs[k]? = some u ∧ RV c m H x u := by
  cases s with
  | l j n =>
    simp only [IS.get] at g
    cases q : listOf st j with
    | none => simp only [q] at g; cases g
    | some xs =>
      simp only [q] at g
      split at g
      · obtain ⟨vs, h1, h2⟩ := r.list q h
        obtain ⟨u, h3, h4⟩ := h2.get' g
        exact ⟨vs, u, h1, h3, h4⟩
      · cases g
  | t xs =>
    obtain ⟨vs, h1, h2⟩ := h
    obtain ⟨u, h3, h4⟩ := h2.get' g
    exact ⟨vs, u, h1, h3, h4⟩
theorem IS.at.fin (h : s.at c m H a) (r : Rel c m st H) (g : s.fin st = true) : ∃ vs, skSq s.sk c.K H a vs ∧ vs.length = s.len := by
  cases s with
  | l j n =>
    simp only [IS.fin] at g
    cases q : listOf st j with
    | none => simp only [q] at g; cases g
    | some xs =>
      simp only [q] at g
      obtain ⟨vs, h1, h2⟩ := r.list q h
      exact ⟨vs, h1, by rw [← h2.length]; exact of_decide_eq_true g⟩
  | t xs =>
    obtain ⟨vs, h1, h2⟩ := h
    exact ⟨vs, h1, h2.length.symm⟩
structure ItOk (c : GC) (it : IM) (J : It) (m0 : List Addr) (H0 : Hp) : Prop where
  go : ∀ (k : Nat) (m : List Addr) (st : Sto) (H : Hp) (x : MV), Ext c m0 H0 m H → Rel c m st H → it.get k st = some x → J.go k H ∧ ∀ u H', J.yld k H u H' → Ext c m H m H' ∧ Rel c m st H' ∧ RV c m H' x u
  stop : ∀ (m : List Addr) (st : Sto) (H : Hp), Ext c m0 H0 m H → Rel c m st H → it.fin st = true → J.stop it.cnt H
def seqIt (K : PySem.W.Frag) (a : Addr) : SK → It
  | .l => Itl K a
  | .t => Itt K a
theorem itOk_sq (h : s.at c m H a) : ItOk c (.sq s) (seqIt c.K a s.sk) m H := by
  refine ⟨fun k m1 st H1 x e r g => ?_, fun m1 st H1 e r g => ?_⟩
  · obtain ⟨vs, u, h1, h2, h3⟩ := (h.mono e).get r g
    cases hs : s.sk with
    | l =>
      rw [hs] at h1
      refine ⟨⟨vs, u, h1, h2⟩, fun v H' y => ?_⟩
      obtain ⟨rfl, y⟩ := y
      have := y vs h1
      rw [h2] at this
      cases this
      exact ⟨.refl, r, h3⟩
    | t =>
      rw [hs] at h1
      refine ⟨⟨vs, u, h1, h2⟩, fun v H' y => ?_⟩
      obtain ⟨rfl, y⟩ := y
      have := y vs h1
      rw [h2] at this
      cases this
      exact ⟨.refl, r, h3⟩
  · obtain ⟨vs, h1, h2⟩ := (h.mono e).fin r g
    cases hs : s.sk with
    | l => rw [hs] at h1; exact ⟨vs, h1, Nat.le_of_eq h2⟩
    | t => rw [hs] at h1; exact ⟨vs, h1, Nat.le_of_eq h2⟩
theorem itOk_rng {lo : Int} {n : Nat} : ItOk c (.rng lo n) (Itr lo n) m H := by
  refine ⟨fun k m1 st H1 x e r g => ?_, fun m1 st H1 e r g => Nat.le_refl _⟩
  simp only [IM.get] at g
  split at g
  · rename_i hk
    cases g
    refine ⟨hk, fun u H' y => ?_⟩
    obtain ⟨rfl, rfl⟩ := y
    exact ⟨.refl, r, .int _⟩
  · cases g
theorem pair_new {x y : MV} {u v : V} (r : Rel c m st H) (h1 : RV c m H x u) (h2 : RV c m H y v) {T : Addr} (hT : H T = none) : Ext c m H m (upd H T (.tup [u, v])) ∧ Rel c m st (upd H T (.tup [u, v])) ∧ RV c m (upd H T (.tup [u, v])) (.tup [x, y]) (.ref T) :=
  ⟨ext_new hT, r.same (upd_keeps hT), .tup (SqT.of upd_same) (.cons (h1.mono (ext_new hT)) (.cons (h2.mono (ext_new hT)) .nil))⟩
theorem itOk_en (h : s.at c m H a) : ItOk c (.en s) (ItE s.sk c.K a) m H := by
  refine ⟨fun k m1 st H1 x e r g => ?_, fun m1 st H1 e r g => ?_⟩
  · simp only [IM.get] at g
    cases q : s.get k st with
    | none => rw [q] at g; cases g
    | some y =>
      rw [q] at g
      cases g
      obtain ⟨vs, u, h1, h2, h3⟩ := (h.mono e).get r q
      refine ⟨⟨vs, u, h1, h2⟩, fun v H' z => ?_⟩
      obtain ⟨T, w, rfl, hT, rfl, z⟩ := z
      have := z vs h1
      rw [h2] at this
      cases this
      exact pair_new r (.int _) h3 hT
  · obtain ⟨vs, h1, h2⟩ := (h.mono e).fin r g
    exact ⟨vs, h1, h2⟩
theorem itOk_zp {b : Addr} {s' : IS} (h : s.at c m H a) (h' : s'.at c m H b) : ItOk c (.zp s s') (ItZ s.sk s'.sk c.K a b) m H := by
  refine ⟨fun k m1 st H1 x e r g => ?_, fun m1 st H1 e r g => ?_⟩
  · simp only [IM.get] at g
    split at g
    · rename_i y y' q q'
      cases g
      obtain ⟨vs, u, h1, h2, h3⟩ := (h.mono e).get r q
      obtain ⟨vs', u', h1', h2', h3'⟩ := (h'.mono e).get r q'
      refine ⟨⟨vs, vs', u, u', h1, h1', h2, h2'⟩, fun v H' z => ?_⟩
      obtain ⟨T, w, w', rfl, hT, rfl, z, z'⟩ := z
      have e1 := z vs h1
      have e2 := z' vs' h1'
      rw [h2] at e1
      rw [h2'] at e2
      cases e1
      cases e2
      exact pair_new r h3 h3' hT
    · cases g
  · simp only [IM.fin] at g
    rw [Bool.and_eq_true] at g
    obtain ⟨vs, h1, h2⟩ := (h.mono e).fin r g.1
    obtain ⟨vs', h1', h2'⟩ := (h'.mono e).fin r g.2
    exact ⟨vs, vs', h1, h1', by rw [h2, h2']; rfl⟩
end
abbrev DI := MEnv → Sto → R IM
def tMI (c : GC) (W : WX) (f : DI) : TI := fun σ H Q => ∃ m ρ st, Rel c m st H ∧ REnv c m H ρ σ ∧ Run c W σ m H (f ρ st) (fun it _ m' H' => ∀ J, ItOk c it J m' H' → Q J H')
theorem _root_.L2.PI.imp {X : Cx} {tg e : Expr} {t t' : TI} (h : PI X tg e t) (q : ∀ σ H Q, t' σ H Q → t σ H Q) : PI X tg e t' := ⟨fun pins s σ H Q I w => h.run pins s σ H Q I (q _ _ _ w)⟩
def isOf (x : MV) (st : Sto) : Option IS :=
  match x with
  | .tup xs => some (.t xs)
  | .ref j => (listOf st j).map fun xs => .l j xs.length
  | _ => none
theorem isOf_ok {c : GC} {m : List Addr} {st : Sto} {H : Hp} {x : MV} {u : V} {s : IS} (r : Rel c m st H) (h : RV c m H x u) (e : isOf x st = some s) : ∃ a vs, u = .ref a ∧ s.at c m H a ∧ skSq s.sk c.K H a vs := by
  unfold isOf at e
  split at e
  · cases e
    cases h with
    | @tup a xs vs hs hv => exact ⟨a, vs, rfl, ⟨vs, hs, hv⟩, hs⟩
  · rename_i j
    cases h with
    | @ref i a hi =>
    cases q : listOf st j with
    | none => rw [q] at e; cases e
    | some xs =>
      rw [q] at e
      cases e
      obtain ⟨vs, h1, h2⟩ := r.list q hi
      exact ⟨a, vs, rfl, hi, h1⟩
  · cases e
section
variable {A : AD} {X : Cx} {W : WX} {tg : Expr} {pos : Pos}
abbrev PMI (A : AD) (X : Cx) (W : WX) (tg e : Expr) (f : DI) : Prop := PI X tg e (tMI (gc A X) W f)
def iSq (f : DE) : DI := fun ρ st => bnd (f ρ st) fun x st1 => match isOf x st1 with | some s => ret (.sq s) st1 | none => none
theorem pmi_seq {e : Expr} {f : DE} (h : PM A X W e f) : PMI A X W tg e (iSq f) := by
  refine (pi_seq h).imp fun σ H Q ⟨m, ρ, st, r, v, k⟩ => ?_
  refine tM.thenG r v k fun x u st1 m1 H1 r1 e1 v1 hu k1 => ?_
  cases q : isOf x st1 with
  | none => simp only [q] at k1; exact k1.elim
  | some s =>
    simp only [q] at k1
    obtain ⟨a, vs, rfl, h1, h2⟩ := isOf_ok r1 hu q
    have z := Run.ok k1 .refl r1 _ (itOk_sq h1)
    refine ⟨a, rfl, ?_⟩
    cases hs : s.sk with
    | l => rw [hs] at z h2; exact .inl ⟨⟨vs, h2⟩, z⟩
    | t => rw [hs] at z h2; exact .inr ⟨⟨vs, h2⟩, z⟩
def iR1 (f : DA) : DI := fun ρ st => bnd (f ρ st) fun xs st1 => match xs with
  | [.int j] => if -(2 ^ 62) ≤ j ∧ j < 2 ^ 62 then ret (.rng 0 j.toNat) st1 else none
  | _ => none
def iR2 (f : DA) : DI := fun ρ st => bnd (f ρ st) fun xs st1 => match xs with
  | [.int i, .int j] => if -(2 ^ 62) ≤ i ∧ i < 2 ^ 62 ∧ -(2 ^ 62) ≤ j ∧ j < 2 ^ 62 then ret (.rng i (j - i).toNat) st1 else none
  | _ => none
theorem pmi_range1 {a : Expr} {f : DA} {p : Pos} (hg : Gl X "range") (hm : X.mg "range" = none) (ha : PMA A X W [a] f) (hs : starEach [a] X.env = [(false, eval a X.env)]) : PMI A X W tg (.Call (.Name "range" p) [a] [] pos) (iR1 f) := by
  refine (pi_range1 hg hm ha hs).imp fun σ H Q ⟨m, ρ, st, r, v, k⟩ => ?_
  refine tMA.thenG r v k fun xs us st1 m1 H1 r1 e1 v1 hus k1 => ?_
  split at k1
  · rename_i j
    match us, hus with
    | [_], .cons (.int _) .nil =>
      split at k1
      · rename_i hj
        exact ⟨j, rfl, hj.1, hj.2, Run.ok k1 .refl r1 _ itOk_rng⟩
      · exact k1.elim
  · exact k1.elim
theorem pmi_range2 {a b : Expr} {f : DA} {p : Pos} (hg : Gl X "range") (hm : X.mg "range" = none) (ha : PMA A X W [a, b] f) (hs : starEach [a, b] X.env = [(false, eval a X.env), (false, eval b X.env)]) (hs2 : starEach [b] X.env = [(false, eval b X.env)]) :
    PMI A X W tg (.Call (.Name "range" p) [a, b] [] pos) (iR2 f) := by
  refine (pi_range2 hg hm ha hs hs2).imp fun σ H Q ⟨m, ρ, st, r, v, k⟩ => ?_
  refine tMA.thenG r v k fun xs us st1 m1 H1 r1 e1 v1 hus k1 => ?_
  split at k1
  · rename_i i j
    match us, hus with
    | [_, _], .cons (.int _) (.cons (.int _) .nil) =>
      split at k1
      · rename_i hj
        exact ⟨i, j, rfl, hj, Run.ok k1 .refl r1 _ itOk_rng⟩
      · exact k1.elim
  · exact k1.elim
def iEn (f : DA) : DI := fun ρ st => bnd (f ρ st) fun xs st1 => match xs with | [x] => (match isOf x st1 with | some s => ret (.en s) st1 | none => none) | _ => none
theorem pmi_enum {e : Expr} {f : DA} {p tpos : Pos} {elts : List Expr} {kk : Nat} (hg : Gl X "enumerate") (hm : X.mg "enumerate" = none) (ha : PMA A X W [e] f) (hs : starEach [e] X.env = [(false, eval e X.env)]) : PMI A X W (.Tuple elts kk tpos) (.Call (.Name "enumerate" p) [e] [] pos) (iEn f) := by
  refine (pi_enA hg hm ha hs).imp fun σ H Q ⟨m, ρ, st, r, v, k⟩ => ?_
  refine tMA.thenG r v k fun xs us st1 m1 H1 r1 e1 v1 hus k1 => ?_
  split at k1
  · rename_i x
    match us, hus with
    | [u], .cons hu .nil =>
      split at k1
      · rename_i s q
        obtain ⟨a, vs, rfl, h1, h2⟩ := isOf_ok r1 hu q
        exact ⟨a, vs, s.sk, rfl, h2, Run.ok k1 .refl r1 _ (itOk_en h1)⟩
      · exact k1.elim
  · exact k1.elim
def iZp (f : DA) : DI := fun ρ st => bnd (f ρ st) fun xs st1 => match xs with | [x, y] => (match isOf x st1, isOf y st1 with | some s, some s' => ret (.zp s s') st1 | _, _ => none) | _ => none
theorem pmi_zip {e e2 : Expr} {f : DA} {p tpos : Pos} {elts : List Expr} {kk : Nat} (hg : Gl X "zip") (hm : X.mg "zip" = none) (ha : PMA A X W [e, e2] f) (hs : starEach [e, e2] X.env = (false, eval e X.env) :: starEach [e2] X.env) (hpl : (backTo pos (starEach [e2] X.env)).any (·.1) = false) :
    PMI A X W (.Tuple elts kk tpos) (.Call (.Name "zip" p) [e, e2] [] pos) (iZp f) := by
  refine (pi_zpA hg hm ha hs hpl).imp fun σ H Q ⟨m, ρ, st, r, v, k⟩ => ?_
  refine tMA.thenG r v k fun xs us st1 m1 H1 r1 e1 v1 hus k1 => ?_
  split at k1
  · rename_i x y
    match us, hus with
    | [u, u'], .cons hu (.cons hu' .nil) =>
      split at k1
      · rename_i s s' q q'
        obtain ⟨a, vs, rfl, h1, h2⟩ := isOf_ok r1 hu q
        obtain ⟨b, vs', rfl, h1', h2'⟩ := isOf_ok r1 hu' q'
        exact ⟨a, b, vs, vs', s.sk, s'.sk, rfl, h2, h2', Run.ok k1 .refl r1 _ (itOk_zp h1 h1')⟩
      · exact k1.elim
  · exact k1.elim
def aft (r : SR) (k : DS) : SR := match r with
  | some (.nx, ρ, st) => k ρ st
  | some (.ct, ρ, st) => k ρ st
  | some (.bk, ρ, st) => some (.nx, ρ, st)
  | r => r
def aftG (r : SR) (k : DS) : SR := match r with
  | some (.nx, ρ, st) => k ρ st
  | some (.exc x, ρ, st) => some (.exc x, ρ, st)
  | _ => none
abbrev Nxt (c : GC) (W : WX) (D : Ends) (m : List Addr) (H : Hp) (k : DS) (σ' : L2.St) (H' : Hp) : Prop := ∃ m' ρ' st', Ext c m H m' H' ∧ Rel c m' st' H' ∧ REnv c m' H' ρ' σ' ∧ SRun c W D m' H' (k ρ' st')
theorem SRun.aft {c : GC} {D : Ends} {m : List Addr} {H : Hp} {r : SR} {k : DS} (h : SRun c W D m H (CS.aft r k)) : SRun c W { D with nx := Nxt c W D m H k, ct := Nxt c W D m H k, bk := D.nx } m H r := by
  match r, h with
  | none, h => exact h
  | some (.nx, ρ, st), h => exact fun m1 H1 s1 e1 r1 v1 => ⟨m1, ρ, st, e1, r1, v1, SRun.mono (r := k ρ st) h e1⟩
  | some (.ct, ρ, st), h => exact fun m1 H1 s1 e1 r1 v1 => ⟨m1, ρ, st, e1, r1, v1, SRun.mono (r := k ρ st) h e1⟩
  | some (.bk, ρ, st), h => exact h
  | some (.rt v, _, st), h => exact h
  | some (.exc x, ρ, st), h => exact h
theorem SRun.aftG {c : GC} {D : Ends} {m : List Addr} {H : Hp} {r : SR} {k : DS} (h : SRun c W D m H (CS.aftG r k)) : SRun c W (endN (Nxt c W D m H k)) m H r := by
  match r, h with
  | none, h => exact h
  | some (.nx, ρ, st), h => exact fun m1 H1 s1 e1 r1 v1 => ⟨m1, ρ, st, e1, r1, v1, SRun.mono (r := k ρ st) h e1⟩
  | some (.ct, ρ, st), h => exact h.elim
  | some (.bk, ρ, st), h => exact h.elim
  | some (.rt v, _, st), h => exact h.elim
  | some (.exc x, ρ, st), h => exact h
theorem SRun.ends {c : GC} {D D' : Ends} {m : List Addr} {H : Hp} {r : SR} (h : SRun c W D m H r) (h1 : ∀ m' σ' H', Ext c m H m' H' → D.nx σ' H' → D'.nx σ' H') (h2 : ∀ u H', D.rt u H' → D'.rt u H') (h3 : ∀ σ' H', D.bk σ' H' → D'.bk σ' H') (h4 : ∀ m' σ' H', Ext c m H m' H' → D.ct σ' H' → D'.ct σ' H') : SRun c W D' m H r := by
  match r, h with
  | none, h => exact h
  | some (.nx, ρ, st), h => exact fun m1 H1 s1 e1 r1 v1 => h1 m1 _ _ e1 (h m1 H1 s1 e1 r1 v1)
  | some (.ct, ρ, st), h => exact fun m1 H1 s1 e1 r1 v1 => h4 m1 _ _ e1 (h m1 H1 s1 e1 r1 v1)
  | some (.bk, ρ, st), h => exact fun m1 H1 s1 e1 r1 v1 => h3 _ _ (h m1 H1 s1 e1 r1 v1)
  | some (.rt v, _, st), h => exact fun m1 H1 u e1 r1 v1 => h2 _ _ (h m1 H1 u e1 r1 v1)
  | some (.exc x, ρ, st), h => exact h
def forM (it : IM) (g : DG) (b : DS) : Nat → Nat → DS
  | 0, _, ρ, st => if it.fin st then some (.nx, ρ, st) else none
  | n + 1, k, ρ, st => match it.get k st with
    | none => none
    | some x => aftG (g x ρ st) fun ρ1 st1 => aft (b ρ1 st1) (forM it g b n (k + 1))
def sFor (f : DI) (g : DG) (b : DS) : DS := fun ρ st => sb ρ (f ρ st) fun it st1 => forM it g b it.cnt 0 ρ st1
theorem pms_for {iter : Expr} {body : List Stmt} {f : DI} {g : DG} {b : DS} (hp : PassesOwn (model X.prog X.w) X.A X.env X.xe) (hc : X.calm = true) (hi : PMI A X W tg iter f) (hg : PMG A X W tg g) (hb : PMSs A X W body b) (hs : ∀ x, foldedSetIterable iter X.env x = pure x) :
    PMS A X W (.For tg iter body [] pos) (sFor f g b) := by
  refine (ps_for hp hc hi hg hb hs).imp fun D σ H ⟨m, ρ, st, r, w, k⟩ => ?_
  refine ⟨m, ρ, st, r, w, (SRun.sb k w).imp fun it st1 m1 H1 r1 e1 k1 J hJ => ?_⟩
  refine ⟨fun i n σ2 H2 => i + n = it.cnt ∧ Nxt (gc A X) W D m1 H1 (forM it g b n i) σ2 H2, ⟨it.cnt, by omega, m1, ρ, st1, .refl, r1, w.mono e1, k1⟩, ?_⟩
  rintro i n σ2 H2 ⟨hn, m2, ρ2, st2, e2, r2, w2, k2⟩
  cases n with
  | zero =>
    unfold forM at k2
    split at k2
    · rename_i hf
      have hi : i = it.cnt := by omega
      exact .inl ⟨by rw [hi]; exact hJ.stop m2 st2 H2 e2 r2 hf, k2 m2 H2 σ2 .refl r2 w2⟩
    · exact k2.elim
  | succ n =>
    unfold forM at k2
    cases q : it.get i st2 with
    | none => simp only [q] at k2; exact k2.elim
    | some x =>
      simp only [q] at k2
      obtain ⟨go, yl⟩ := hJ.go i m2 st2 H2 x e2 r2 q
      refine .inr ⟨go, fun σ3 H3 => i + 1 + n = it.cnt ∧ Nxt (gc A X) W D m1 H1 (forM it g b n (i + 1)) σ3 H3, fun σ' H' h => ⟨n, Nat.lt_succ_self n, h⟩, fun u H3 y => ?_⟩
      obtain ⟨e3, r3, rv⟩ := yl u H3 y
      have k3 := SRun.mono (SRun.aftG k2) e3
      refine ⟨m2, ρ2, st2, x, r3, w2.mono e3, rv, k3.ends (fun m4 σ4 H4 e4 ⟨m5, ρ5, st5, e5, r5, w5, k5⟩ => ?_) (fun _ _ z => z) (fun _ _ z => z) fun _ _ _ _ z => z⟩
      refine ⟨m5, ρ5, st5, r5, w5, (SRun.aft k5).ends ?_ (fun _ _ z => z) (fun _ _ z => z) ?_⟩
      all_goals
        rintro m6 σ6 H6 e6 ⟨m7, ρ7, st7, e7, r7, w7, k7⟩
        exact ⟨by omega, m7, ρ7, st7, e2.trans (e5.trans e7), r7, w7, k7⟩
end
end CS
namespace CS
open PySem PySem.Spec L2
inductive CT where | one (i : Nat) | tup (is : List Nat)
def CT.slots : CT → List Nat
  | .one i => [i]
  | .tup is => is
def setAll : List Nat → List MV → MEnv → Option MEnv
  | [], [], ρ => some ρ
  | i :: is, x :: xs, ρ => setAll is xs (ρ.set i (some x))
  | _, _, _ => none
def ctM (t : CT) (x : MV) (ρ : MEnv) : Option MEnv :=
  match t, x with
  | .one i, x => some (ρ.set i (some x))
  | .tup is, .tup xs => setAll is xs ρ
  | .tup _, _ => none
def namesG : List Nat → TGs
  | [] => gNil
  | i :: is => gCons (gName i) (namesG is)
def ctG (K : PySem.W.Frag) : CT → TG
  | .one i => gName i
  | .tup is => gTup K is.length (namesG is)
def wipeM (ρ : MEnv) : List Nat → MEnv
  | [] => ρ
  | v :: vs => (wipeM ρ vs).set v none
theorem wipe_set (σ : L2.St) (i : Nat) (a : Option V) : ∀ vs : List Nat, wipe (σ.set i a) vs = if i ∈ vs then wipe σ vs else (wipe σ vs).set i a
  | [] => by simp [wipe]
  | v :: vs => by
    show (wipe (σ.set i a) vs).set v none = _
    rw [wipe_set σ i a vs]
    by_cases h : i ∈ vs
    · rw [if_pos h, if_pos (List.mem_cons_of_mem _ h)]; rfl
    · rw [if_neg h]
      by_cases e : i = v
      · subst e
        rw [if_pos List.mem_cons_self]
        show _ = (wipe σ vs).set i none
        rw [List.set_set]
      · rw [if_neg (by simp [e, h])]
        show _ = ((wipe σ vs).set v none).set i a
        rw [List.set_comm _ _ e]
theorem wipe_wipe (σ : L2.St) : ∀ vs : List Nat, wipe (wipe σ vs) vs = wipe σ vs
  | [] => rfl
  | a :: l => by
    show (wipe ((wipe σ l).set a none) l).set a none = (wipe σ l).set a none
    rw [wipe_set]
    split
    · rw [wipe_wipe σ l]
    · rw [wipe_wipe σ l, List.set_set]
theorem wipe_in {σ : L2.St} {i : Nat} {a : Option V} {vs : List Nat} (h : i ∈ vs) : wipe (σ.set i a) vs = wipe σ vs := by rw [wipe_set, if_pos h]
section
variable {c : GC} {m : List Addr} {H : Hp} {ρ ρ' : MEnv} {σ : L2.St}
theorem REnv.wipe (r : REnv c m H ρ σ) : ∀ vs : List Nat, REnv c m H (wipeM ρ vs) (L2.wipe σ vs)
  | [] => r
  | v :: vs => (REnv.wipe r vs).unset
theorem names_ok {Q : L2.St → Hp → Prop} {vs : List Nat} : ∀ {is : List Nat} {xs : List MV} {us : List V} {ρ : MEnv} {σ : L2.St}, REnv c m H ρ σ → RVs c m H xs us → setAll is xs ρ = some ρ' → (∀ i ∈ is, i ∈ vs) →
    (∀ σ', REnv c m H ρ' σ' → L2.wipe σ' vs = L2.wipe σ vs → Q σ' H) → namesG is us σ H Q
  | [], [], _, ρ, σ, r, .nil, e, _, k => by cases e; exact ⟨rfl, k σ r rfl⟩
  | i :: is, x :: xs, _, ρ, σ, r, .cons h hs, e, hi, k => ⟨_, _, rfl, names_ok (r.set h) hs e (fun j hj => hi j (List.mem_cons_of_mem _ hj)) fun σ' r' w' => k σ' r' (w'.trans (wipe_in (hi i List.mem_cons_self)))⟩
  | [], _ :: _, _, _, _, _, _, e, _, _ => by cases e
  | _ :: _, [], _, _, _, _, _, e, _, _ => by cases e
theorem setAll_len : ∀ {is : List Nat} {xs : List MV} {ρ ρ' : MEnv}, setAll is xs ρ = some ρ' → xs.length = is.length
  | [], [], _, _, _ => rfl
  | _ :: is, _ :: xs, _, _, e => by simp [setAll_len (is := is) (xs := xs) e]
  | [], _ :: _, _, _, e => by cases e
  | _ :: _, [], _, _, e => by cases e
theorem ct_ok {Q : L2.St → Hp → Prop} {vs : List Nat} {t : CT} {x : MV} {v : V} (r : REnv c m H ρ σ) (h : RV c m H x v) (e : ctM t x ρ = some ρ') (hi : ∀ i ∈ t.slots, i ∈ vs)
    (k : ∀ σ', REnv c m H ρ' σ' → L2.wipe σ' vs = L2.wipe σ vs → Q σ' H) : ctG c.K t v σ H Q := by
  cases t with
  | one i =>
    cases e
    exact k _ (r.set h) (wipe_in (hi i (by simp [CT.slots])))
  | tup is =>
    cases h with
    | @tup a xs us hs hv => exact ⟨a, us, rfl, hs, by rw [← hv.length]; exact setAll_len e, names_ok r hv e hi k⟩
    | _ => cases e
structure Gr (c : GC) (m : List Addr) (H : Hp) (m' : List Addr) (H' : Hp) : Prop where
  pre : ∃ t, m' = m ++ t
  tup : ∀ b xs, SqT c.K H b xs → SqT c.K H' b xs
end
mutual
theorem RV.gr {c : GC} {m m' : List Addr} {H H' : Hp} (e : Gr c m H m' H') : ∀ {x : MV} {v : V}, RV c m H x v → RV c m' H' x v
  | _, _, .non => .non
  | _, _, .bl b => .bl b
  | _, _, .int i => .int i
  | _, _, .str x => .str x
  | _, _, .tup h r => .tup (e.tup _ _ h) (RVs.gr e r)
  | _, _, .ref h => .ref (by
      obtain ⟨t, rfl⟩ := e.pre
      rw [List.getElem?_append_left (List.getElem?_eq_some_iff.mp h).1]
      exact h)
  | _, _, .fn h => .fn h
  | _, _, .cl h => .cl h
  | _, _, .ty n => .ty n
theorem RVs.gr {c : GC} {m m' : List Addr} {H H' : Hp} (e : Gr c m H m' H') : ∀ {xs : List MV} {vs : List V}, RVs c m H xs vs → RVs c m' H' xs vs
  | _, _, .nil => .nil
  | _, _, .cons h r => .cons (RV.gr e h) (RVs.gr e r)
end
section
variable {c : GC} {m m0 : List Addr} {H H0 : Hp} {st : Sto} {D : Addr} {xs ys : List V}
theorem REnv.gr {m' : List Addr} {H' : Hp} {ρ : MEnv} {σ : L2.St} (r : REnv c m H ρ σ) (e : Gr c m H m' H') : REnv c m' H' ρ σ := ⟨r.len, fun i x h => by
  obtain ⟨v, h1, h2⟩ := r.at_ i x h
  exact ⟨v, h1, h2.gr e⟩⟩
theorem gr_off (hD : H D = some (.lst xs)) : Gr c m H m (upd H D (.lst ys)) := by
  refine ⟨⟨[], by simp⟩, fun b zs h => ?_⟩
  rcases h with (h | ⟨o, h⟩) | h
  · exact .inl (.inl (by rw [upd_ne (ne_of h hD (by intro z; cases z))]; exact h))
  · exact .inl (.inr ⟨o, by rw [upd_ne (ne_of h hD (by intro z; cases z))]; exact h⟩)
  · exact .inr h
theorem Rel.off (r : Rel c m st H) (hD : H D = some (.lst xs)) (hm : D ∉ m) : Rel c m st (upd H D (.lst ys)) := by
  refine ⟨r.len, r.nd, fun i o h => ?_⟩
  obtain ⟨a, ha, q⟩ := r.obj i o h
  have g : Gr c m H m (upd H D (.lst ys)) := gr_off hD
  have ne : a ≠ D := fun z => hm (by rw [← z]; exact List.mem_of_getElem? ha)
  refine ⟨a, ha, ?_⟩
  cases o with
  | lst zs => obtain ⟨us, h1, h2⟩ := q; exact ⟨us, by rw [upd_ne ne]; exact h1, h2.gr g⟩
  | frz zs => obtain ⟨ob, us, h1, h2⟩ := q; exact ⟨ob, us, by rw [upd_ne ne]; exact h1, h2.gr g⟩
  | ins k fs => obtain ⟨C, dx, gs, h0, h1, h2⟩ := q; exact ⟨C, dx, gs, h0, by rw [upd_ne ne]; exact h1, Paired.mapP h2 fun p q z => ⟨z.1, z.2.gr g⟩⟩
theorem Ext.off (e : Ext c m0 H0 m H) (h0 : H0 D = none) (hD : H D = some (.lst xs)) : Ext c m0 H0 m (upd H D (.lst ys)) := by
  refine ⟨e.pre, fun b zs h => (gr_off (c := c) (m := m) hD).tup b zs (e.tup b zs h), e.fresh, fun b o h hm ht => ?_, fun b h => ?_⟩
  · rw [upd_ne (ne_of_none h h0)]; exact e.frame b o h hm ht
  · by_cases z : b = D
    · rw [z, upd_same]; simp
    · rw [upd_ne z]; exact e.live b h
theorem Ext.keepD {m' : List Addr} {H' : Hp} (e : Ext c m H m' H') (hD : H D = some (.lst xs)) (hm : D ∉ m) : H' D = some (.lst xs) ∧ D ∉ m' :=
  ⟨e.frame D _ hD hm (fun _ z => by cases z), fun z => (e.fresh D z).elim hm fun q => by rw [hD] at q; cases q⟩
end
def bndN {α β : Type} (r : R α) (f : α → Sto → R β) : R β := match r with | some (.ok a, st) => f a st | _ => none
abbrev W0 : WX := fun _ _ _ _ => False
theorem Run.bndN {c : GC} {W : WX} {σ σ' : L2.St} {m0 m : List Addr} {H0 H : Hp} {α β : Type} {r : R α} {f : α → Sto → R β} {K : Kn β} (h : Run c W σ m0 H0 (CS.bndN r f) K) : Run c W0 σ' m H r (fun a st _ _ => Run c W σ m0 H0 (f a st) K) := by
  match r, h with
  | none, h => exact h
  | some (.error x, st), h => exact h.elim
  | some (.ok a, st), h => exact fun _ _ _ _ => h
def lcM (it : IM) (t : CT) (p : DB) (f : DE) : Nat → Nat → MEnv → Sto → R (List MV)
  | 0, _, _, st => if it.fin st then ret [] st else none
  | n + 1, k, ρ, st => match it.get k st with
    | none => none
    | some x => match ctM t x ρ with
      | none => none
      | some ρ1 => bndN (p ρ1 st) fun b st1 => if b then bndN (f ρ1 st1) fun y st2 => bndN (lcM it t p f n (k + 1) ρ st2) fun ys st3 => ret (y :: ys) st3
        else lcM it t p f n (k + 1) ρ st1
def kL (c : GC) (Hs : Hp) (Q : VK) (acc : List MV) : Kn (List MV) := fun xs _ m' H' => ∀ D vs, Hs D = none → H' D = some (.lst vs) → D ∉ m' → RVs c m' H' (acc ++ xs) vs → Q (.ref D) H'
def tML (c : GC) (W : WX) (f : DA) : TE := fun σ H Q => ∃ m ρ st, Rel c m st H ∧ REnv c m H ρ σ ∧ Run c W σ m H (f ρ st) (kL c H Q [])
abbrev PML (A : AD) (X : Cx) (W : WX) (e : Expr) (f : DA) : Prop := PE X e (tML (gc A X) W f)
def LcW (c : GC) (Hs : Hp) (W : WX) (σr σ : L2.St) (m0 : List Addr) (H0 : Hp) (D : Addr) (it : IM) (ρ : MEnv) (go : Nat → Nat → MEnv → Sto → R (List MV)) (Q : VK) (i n : Nat) (H : Hp) : Prop :=
  i + n = it.cnt ∧ ∃ m st acc vs, Ext c m0 H0 m H ∧ Rel c m st H ∧ REnv c m H ρ σ ∧ H D = some (.lst vs) ∧ D ∉ m ∧ RVs c m H acc vs ∧ acc.length ≤ i ∧ Run c W σr m0 H0 (go n i ρ st) (kL c Hs Q acc)
def eLc (fi : DI) (t : CT) (p : DB) (f : DE) (vs : List Nat) : DA := fun ρ st => bnd (fi ρ st) fun it st1 => if it.cnt ≤ sizeLine then lcM it t p f it.cnt 0 (wipeM ρ vs) st1 else none
theorem kL_more {c : GC} {W : WX} {σ : L2.St} {m : List Addr} {Hs H : Hp} {Q : VK} {acc : List MV} {y : MV} {r : R (List MV)} (h : Run c W σ m H (bndN r fun ys st3 => ret (y :: ys) st3) (kL c Hs Q acc)) : Run c W σ m H r (kL c Hs Q (acc ++ [y])) := by
  match r, h with
  | none, h => exact h
  | some (.error x, st), h => exact h.elim
  | some (.ok ys, st), h => exact fun m1 H1 e1 r1 D vs h0 h1 h2 h3 => h m1 H1 e1 r1 D vs h0 h1 h2 (by simpa using h3)
section
variable {A : AD} {X : Cx} {W : WX} {tg elt iter : Expr} {ifs : List Expr} {scope : Scope} {own : List (Str × Nat)} {pos : Pos} {fi : DI} {t : CT} {p : DB} {f : DE}
abbrev PMTs (A : AD) (X : Cx) (ifs : List Expr) (p : DB) : Prop := PTs X ifs (tMB (gc A X) W0 p)
def bYes : DB := fun _ st => ret true st
theorem pmts_nil : PMTs A X [] bYes := ⟨fun pins s σ H Q I ⟨m, ρ, st, r, v, k⟩ => pts_nil.run pins s σ H Q I (Run.ok k .refl r)⟩
theorem pmts_one {e : Expr} (h : PMT A X W0 e p) : PMTs A X [e] p := pts_one h
theorem lc_turn {c : GC} {σ : L2.St} {m0 : List Addr} {Hs H0 H : Hp} {D : Addr} {it : IM} {J : It} {ρ : MEnv} {Q : VK} {i n : Nat} {vs : List Nat} (hJ : ItOk c it J m0 H0) (hs0 : Hs D = none) (h0 : H0 D = none) (hi : ∀ j ∈ t.slots, j ∈ vs) (hc : it.cnt ≤ sizeLine)
    (h : LcW c Hs W σ (wipe σ vs) m0 H0 D it ρ (lcM it t p f) Q i n H) :
    (J.stop i H ∧ Q (.ref D) H) ∨ (J.go i H ∧ ∃ Nx : Hp → Prop, (∀ H', Nx H' → ∃ n', n' < n ∧ LcW c Hs W σ (wipe σ vs) m0 H0 D it ρ (lcM it t p f) Q (i + 1) n' H') ∧ ∀ x H', J.yld i H x H' → ctG c.K t x (wipe σ vs) H' fun σ2 H2 => wipe σ2 vs = wipe σ vs ∧ tMB c W0 p σ2 H2 fun b H3 =>
      if b = true then tM c W0 f σ2 H3 fun y H4 => ∃ acc, H4 D = some (.lst acc) ∧ acc.length < sizeLine ∧ Nx (upd H4 D (.lst (acc ++ [y]))) else Nx H3) := by
  obtain ⟨hn, m, st, acc, us, e, r, v, hD, hm, hv, hl, k⟩ := h
  cases n with
  | zero =>
    unfold lcM at k
    split at k
    · rename_i hf
      have hi : i = it.cnt := by omega
      exact .inl ⟨by rw [hi]; exact hJ.stop m st H e r hf, Run.ok k e r D us hs0 hD hm (by simpa using hv)⟩
    · exact k.elim
  | succ n =>
    unfold lcM at k
    cases q : it.get i st with
    | none => simp only [q] at k; exact k.elim
    | some x =>
      simp only [q] at k
      obtain ⟨go, yl⟩ := hJ.go i m st H x e r q
      refine .inr ⟨go, fun H' => LcW c Hs W σ (wipe σ vs) m0 H0 D it ρ (lcM it t p f) Q (i + 1) n H', fun H' z => ⟨n, Nat.lt_succ_self n, z⟩, fun u H1 y => ?_⟩
      obtain ⟨e1, r1, rv⟩ := yl u H1 y
      obtain ⟨hD1, hm1⟩ := e1.keepD hD hm
      cases q2 : ctM t x ρ with
      | none => simp only [q2] at k; exact k.elim
      | some ρ1 =>
        simp only [q2] at k
        refine ct_ok (v.mono e1) rv q2 hi fun σ2 v2 hw => ⟨hw.trans (wipe_wipe σ vs), m, ρ1, st, r1, v2, k.bndN.imp fun b st3 m3 H3 r3 e3 k3 => ?_⟩
        obtain ⟨hD3, hm3⟩ := e3.keepD hD1 hm1
        have E3 : Ext c m H m3 H3 := e1.trans e3
        cases b with
        | true =>
          rw [if_pos rfl]
          simp only [if_true] at k3
          refine ⟨m3, ρ1, st3, r3, v2.mono e3, k3.bndN.imp fun y st4 m4 H4 r4 e4 k4 u4 hu4 => ?_⟩
          obtain ⟨hD4, hm4⟩ := e4.keepD hD3 hm3
          have E4 : Ext c m H m4 H4 := E3.trans e4
          have g : Gr c m4 H4 m4 (upd H4 D (.lst (us ++ [u4]))) := gr_off hD4
          have l1 := hv.length
          exact ⟨us, hD4, by omega, by omega, m4, st4, acc ++ [y], us ++ [u4], (e.trans E4).off h0 hD4, r4.off hD4 hm4, (v.mono E4).gr g, upd_same, hm4, ((hv.mono E4).append (.cons hu4 .nil)).gr g, by simp; omega, kL_more k4⟩
        | false =>
          rw [if_neg Bool.false_ne_true]
          exact ⟨by omega, m3, st3, acc, us, e.trans E3, r3, v.mono E3, hD3, hm3, hv.mono E3, by omega, k3⟩
theorem lc_imp {m : List Addr} {ρ : MEnv} {st : Sto} {σ : L2.St} {H : Hp} {Q : VK} {own : List Nat} {D0 : Hp} (r : Rel (gc A X) m st H) (v : REnv (gc A X) m H ρ σ) (k : Run (gc A X) W σ m H (eLc fi t p f own ρ st) (kL (gc A X) H Q [])) (hsl : ∀ j ∈ t.slots, j ∈ own) :
    tLc (tMI (gc A X) W fi) (ctG X.K t) (tMB (gc A X) W0 p) (tM (gc A X) W0 f) own σ H Q := by
  refine ⟨m, ρ, st, r, v, k.bnd.imp fun it st1 m1 H1 r1 e1 k1 J hJ D hD => ?_⟩
  split at k1
  · rename_i hcn
    refine ⟨LcW (gc A X) H W σ (wipe σ own) m1 H1 D it (wipeM ρ own) (lcM it t p f) Q, ⟨it.cnt, by omega, m1, st1, [], [], ext_new hD, r1.same (upd_keeps hD), ((v.mono e1).wipe _).mono (ext_new hD), upd_same, fun z => ?_, .nil, by simp, ?_⟩, fun i n H2 h => lc_turn hJ (by cases q : H D with
      | none => rfl
      | some o => exact absurd hD (e1.live D (by rw [q]; simp))) hD hsl hcn h⟩
    · obtain ⟨u, hu⟩ := r1.mem z
      rw [hD] at hu; cases hu
    · exact k1
  · exact k1.elim
theorem pml_lc (hc : X.calm = true) (hN : X.N.Nodup) (hi : PMI A X W tg iter fi) (ok : BlkOk X.N X.env.scope scope own)
    (hg : ∀ (s : Shared) (H : Hp) (C : Addr) (cl : List (Str × Addr)) (fp : List Addr), PG (X.blk s H scope (compEnvC scope cl C X.env) fp) tg (ctG X.K t)) (ht : ∀ (s : Shared) (H : Hp) (C : Addr) (cl : List (Str × Addr)) (fp : List Addr), PTs (X.blk s H scope (compEnvC scope cl C X.env) fp) ifs (tMB (gc A X) W0 p))
    (he : ∀ (s : Shared) (H : Hp) (C : Addr) (cl : List (Str × Addr)) (fp : List Addr), PE (X.blk s H scope (compEnvC scope cl C X.env) fp) elt (tM (gc A X) W0 f)) (hs : ∀ x, foldedSetIterable iter X.env x = pure x) (hsl : ∀ j ∈ t.slots, j ∈ own.map (·.2)) :
    PML A X W (.ListComp elt [⟨tg, iter, ifs, 0⟩] scope pos) (eLc fi t p f (own.map (·.2))) :=
  (pe_lc hc hN hi ok hg ht he hs).imp fun σ H Q ⟨m, ρ, st, r, v, k⟩ => lc_imp (D0 := H) r v k hsl
def sLc (i : Nat) (fl : DA) : DS := fun ρ st => sb ρ (fl ρ st) fun xs st1 => some (.nx, ρ.set i (some (.ref st1.length)), st1 ++ [.lst xs])
end
end CS
namespace CS
open PySem PySem.Spec L2
def eNew (f : DA) : DE := fun ρ st => bnd (f ρ st) fun xs st1 => ret (.ref st1.length) (st1 ++ [.lst xs])
theorem adopt {c : GC} {m m' : List Addr} {st : Sto} {H H' : Hp} {D : Addr} {xs : List MV} {vs : List V} (e : Ext c m H m' H') (r : Rel c m' st H') (h0 : H D = none) (hD : H' D = some (.lst vs)) (hm : D ∉ m') (hv : RVs c m' H' xs vs) :
    Ext c m H (m' ++ [D]) H' ∧ Rel c (m' ++ [D]) (st ++ [.lst xs]) H' := by
  have g : Gr c m' H' (m' ++ [D]) H' := ⟨⟨[D], rfl⟩, fun _ _ h => h⟩
  refine ⟨⟨?_, e.tup, fun a ha => ?_, e.frame, e.live⟩, by simp [r.len], ?_, fun i o h => ?_⟩
  · obtain ⟨t, rfl⟩ := e.pre
    exact ⟨t ++ [D], by simp⟩
  · rcases List.mem_append.mp ha with h | h
    · exact e.fresh a h
    · rw [List.mem_singleton] at h; rw [h]; exact .inr h0
  · refine List.nodup_append.mpr ⟨r.nd, by simp, fun x hx y hy => ?_⟩
    rw [List.mem_singleton] at hy
    subst hy
    rintro rfl
    exact hm hx
  · by_cases hi : i < st.length
    · rw [List.getElem?_append_left hi] at h
      obtain ⟨a, ha, q⟩ := r.obj i o h
      refine ⟨a, by rw [List.getElem?_append_left (by rw [r.len]; exact hi)]; exact ha, ?_⟩
      cases o with
      | lst zs => obtain ⟨us, h1, h2⟩ := q; exact ⟨us, h1, h2.gr g⟩
      | frz zs => obtain ⟨ob, us, h1, h2⟩ := q; exact ⟨ob, us, h1, h2.gr g⟩
      | ins k fs => obtain ⟨C, dx, gs, h0, h1, h2⟩ := q; exact ⟨C, dx, gs, h0, h1, Paired.mapP h2 fun p q z => ⟨z.1, z.2.gr g⟩⟩
    · have hl : i = st.length := by
        have := (List.getElem?_eq_some_iff.mp h).1
        simp at this; omega
      subst hl
      simp at h
      subst h
      exact ⟨D, by rw [← r.len]; simp, vs, hD, hv.gr g⟩
section
variable {A : AD} {X : Cx} {W : WX} {e : Expr} {fl : DA} {pos : Pos}
theorem new_of {c : GC} {σ : L2.St} {m : List Addr} {H : Hp} {ρ : MEnv} {st : Sto} {K : Kn MV} {Q : VK} (k : Run c W σ m H (eNew fl ρ st) K) (hK : ∀ x st' m' H', Rel c m' st' H' → Ext c m H m' H' → K x st' m' H' → ∀ u, RV c m' H' x u → Q u H') :
    Run c W σ m H (fl ρ st) (kL c H Q []) := by
  unfold eNew bnd at k
  match q : fl ρ st, k with
  | none, k => exact k
  | some (.error x, st1), k => exact k
  | some (.ok xs, st1), k =>
    intro m1 H1 e1 r1 D vs h0 hD hm hv
    obtain ⟨e2, r2⟩ := adopt (xs := xs) e1 r1 h0 hD hm (by simpa using hv)
    exact hK _ _ _ _ r2 e2 (k _ _ e2 r2) _ (.ref (by rw [← r1.len]; simp))
theorem pm_new (h : PML A X W e fl) : PM A X W e (eNew fl) := PE.imp h fun σ H Q ⟨m, ρ, st, r, v, k⟩ => ⟨m, ρ, st, r, v, new_of k fun _ _ _ _ _ _ q => q⟩
def ClL (A : AD) (X : Cx) (W : WX) (f : Value) (g : List MV → Sto → R MV) : Prop :=
  ∃ r : List V → Hp → VK → Prop, CallR X f r ∧ ∀ (m : List Addr) (st : Sto) (σ : L2.St) (H : Hp) (xs : List MV) (D : Addr) (us : List V) (Q : VK), Rel (gc A X) m st H → H D = some (.lst us) → RVs (gc A X) m H xs us → Run (gc A X) W σ m H (g xs st) (kV (gc A X) Q) → r [.ref D] H Q
def eFu (g : List MV → Sto → R MV) (fl : DA) : DE := fun ρ st => bnd (fl ρ st) fun xs st1 => g xs st1
theorem fuse_of {g : List MV → Sto → R MV} {r : List V → Hp → VK → Prop} {σ : L2.St} {H : Hp} {Q : VK}
    (hr : ∀ (m : List Addr) (st : Sto) (σ : L2.St) (H : Hp) (xs : List MV) (D : Addr) (us : List V) (Q : VK), Rel (gc A X) m st H → H D = some (.lst us) → RVs (gc A X) m H xs us → Run (gc A X) W σ m H (g xs st) (kV (gc A X) Q) → r [.ref D] H Q)
    (h : tM (gc A X) W (eFu g fl) σ H Q) : tCB r (tCons (tML (gc A X) W fl) tNil) σ H Q := by
  obtain ⟨m, ρ, st, rr, v, k⟩ := h
  exact ⟨m, ρ, st, rr, v, k.bnd.imp fun xs st1 m1 H1 r1 e1 k1 D us h0 hD hm hv => hr m1 st1 σ H1 xs D us Q r1 hD (by simpa using hv) k1⟩
def anyL (xs : List MV) (st : Sto) : R MV := match bools xs with | some bs => ret (.bl (bs.any id)) st | none => none
def allL (xs : List MV) (st : Sto) : R MV := match bools xs with | some bs => ret (.bl (bs.all id)) st | none => none
def sumL (xs : List MV) (st : Sto) : R MV := match intsM xs with | some ns => ret (.int ns.sum) st | none => none
def tupleL (xs : List MV) (st : Sto) : R MV := ret (.tup xs) st
def lenL (xs : List MV) (st : Sto) : R MV := ret (.int xs.length) st
theorem cll_any (hc : X.calm = true) : ClL A X W (.builtin "any") anyL := by
  refine ⟨_, cr_any hc, fun m st σ H xs D us Q r hD hv k => ?_⟩
  unfold anyL at k
  split at k
  · rename_i bs e
    exact ⟨D, bs, rfl, SqL.of (by rw [← bools_ok hv e]; exact hD), k.ok .refl r _ (.bl _)⟩
  · exact k.elim
theorem cll_all (hc : X.calm = true) : ClL A X W (.builtin "all") allL := by
  refine ⟨_, cr_all hc, fun m st σ H xs D us Q r hD hv k => ?_⟩
  unfold allL at k
  split at k
  · rename_i bs e
    exact ⟨D, bs, rfl, SqL.of (by rw [← bools_ok hv e]; exact hD), k.ok .refl r _ (.bl _)⟩
  · exact k.elim
theorem cll_sum (hc : X.calm = true) : ClL A X W (.builtin "sum") sumL := by
  refine ⟨_, cr_sum hc, fun m st σ H xs D us Q r hD hv k => ?_⟩
  unfold sumL at k
  split at k
  · rename_i ns e
    exact ⟨D, ns, rfl, SqL.of (by rw [← intsM_ok hv e]; exact hD), k.ok .refl r _ (.int _)⟩
  · exact k.elim
theorem cll_tuple : ClL A X W (.type "tuple") tupleL := by
  refine ⟨_, call_tuple_of, fun m st σ H xs D us Q r hD hv k => ?_⟩
  exact ⟨D, us, rfl, .inl ⟨SqL.of hD, new_tup r hv k⟩⟩
theorem cll_len : ClL A X W (.builtin "len") lenL := by
  refine ⟨_, call_len_seq, fun m st σ H xs D us Q r hD hv k => ?_⟩
  exact ⟨D, us, rfl, .inl (SqL.of hD), by rw [← hv.length]; exact k.ok .refl r _ (.int _)⟩
theorem pm_fuseB {x : Str} {id : String} {p : Pos} {g : List MV → Sto → R MV} (h : ClL A X W (.builtin id) g) (hg : Gl X x) (hm : X.mg x = none) (hv : bootBuiltins x = some (.builtin id)) (ha : PML A X W e fl) (hn : x ≠ "__name__") (hdb : (x == ("__debug__" : Str)) = false)
    (he : starEach [e] X.env = (false, eval e X.env) :: starEach [] X.env) : PM A X W (.Call (.Name x p) [e] [] pos) (eFu g fl) := by
  obtain ⟨r, hc, hr⟩ := h
  exact (pe_callB hc hg hm hv (pa_cons ha pa_nil he) hn hdb he rfl).imp fun σ H Q q => fuse_of hr q
theorem pm_fuseT {x : Str} {T : String} {p : Pos} {g : List MV → Sto → R MV} (h : ClL A X W (.type T) g) (hg : Gl X x) (hm : X.mg x = none) (hv : bootBuiltins x = some (.type T)) (ha : PML A X W e fl) (hn : x ≠ "__name__") (hdb : (x == ("__debug__" : Str)) = false)
    (he : starEach [e] X.env = (false, eval e X.env) :: starEach [] X.env) : PM A X W (.Call (.Name x p) [e] [] pos) (eFu g fl) := by
  obtain ⟨r, hc, hr⟩ := h
  exact (pe_callTy hc hg hm hv (pa_cons ha pa_nil he) hn hdb he rfl).imp fun σ H Q q => fuse_of hr q
theorem pm_callB {x : Str} {id : String} {p : Pos} {es : List Expr} {fa : DA} {g : List MV → Sto → R MV} (h : ClM A X W (.builtin id) g) (hg : Gl X x) (hm : X.mg x = none) (hv : bootBuiltins x = some (.builtin id)) (ha : PMA A X W (e :: es) fa) (hn : x ≠ "__name__") (hdb : (x == ("__debug__" : Str)) = false)
    (he : starEach (e :: es) X.env = (false, eval e X.env) :: starEach es X.env) (hpl : (backTo pos (starEach es X.env)).any (·.1) = false) : PM A X W (.Call (.Name x p) (e :: es) [] pos) (eCall g fa) := by
  obtain ⟨r, hc, hr⟩ := h
  exact (pe_callB hc hg hm hv ha hn hdb he hpl).imp fun σ H Q q => tCB_of hr q
theorem pm_callT {x : Str} {T : String} {p : Pos} {es : List Expr} {fa : DA} {g : List MV → Sto → R MV} (h : ClM A X W (.type T) g) (hg : Gl X x) (hm : X.mg x = none) (hv : bootBuiltins x = some (.type T)) (ha : PMA A X W (e :: es) fa) (hn : x ≠ "__name__") (hdb : (x == ("__debug__" : Str)) = false)
    (he : starEach (e :: es) X.env = (false, eval e X.env) :: starEach es X.env) (hpl : (backTo pos (starEach es X.env)).any (·.1) = false) : PM A X W (.Call (.Name x p) (e :: es) [] pos) (eCall g fa) := by
  obtain ⟨r, hc, hr⟩ := h
  exact (pe_callTy hc hg hm hv ha hn hdb he hpl).imp fun σ H Q q => tCB_of hr q
end
structure FnG (P : Program) (w : World) (K : PySem.W.Frag) (mg : Str → Option Value) (base : Heap) (k : Nat) (f : Addr) (fd : FuncData) (ps : List Str) (sp : Sp) : Prop where
  len : ∀ vs H Q E, sp vs H Q E → vs.length = ps.length
  run : ∀ (A : Around) (outer : List Env) (s : Shared) (H : Hp) (args : Args) (us : List Value) (vs : List V) (Q : VK) (E : XK), Room k A → A.guards = some [] → Env0 P w K mg base A outer s H → BindsTo s fd args (ps.zip us) → Vals vs us → sp vs H Q E →
    codeAny (model P w) A (.call (.ref f) args) (CR (L2.CX P w) outer P w H s Q E) s
def spM (c : GC) (sem : List MV → Sto → R MV) (n : Nat) : Sp := fun vs H Q E => vs.length = n ∧ ∃ m st xs, Rel c m st H ∧ RVs c m H xs vs ∧ Run c (fun cls d _ H' => E cls d H') [] m H (sem xs st) (kV c Q)
theorem Run.wish {c : GC} {W W' : WX} {σ σ' : L2.St} {m : List Addr} {H : Hp} {α : Type} {r : R α} {K : Kn α} (h : Run c W σ m H r K) (k : ∀ cls d H', W cls d σ H' → W' cls d σ' H') : Run c W' σ' m H r K := by
  match r, h with
  | none, h => exact h
  | some (.error x, st), h => exact fun m1 H1 cls d e1 r1 x1 => k _ _ _ (h m1 H1 cls d e1 r1 x1)
  | some (.ok a, st), h => exact h
theorem Run.under {c : GC} {W : WX} {σ : L2.St} {m m' : List Addr} {H H' : Hp} {α : Type} {r : R α} {K : Kn α} (h : Run c W σ m H r K) (e : Ext c m H m' H') : Run c W σ m' H' r K := by
  match r, h with
  | none, h => exact h
  | some (.error x, st), h => exact fun m1 H1 cls d e1 r1 x1 => h m1 H1 cls d (e.trans e1) r1 x1
  | some (.ok a, st), h => exact fun m1 H1 e1 r1 => h m1 H1 (e.trans e1) r1
section
variable {A : AD} {X : Cx} {W : WX} {pins : List (Addr × Obj)} {σ : L2.St} {H : Hp} {s : Shared} {l : Nat} {f : Addr} {fd : FuncData} {ps : List Str}
theorem run_g {sp : Sp} {Q : VK} {args : Args} {us : List Value} {vs : List V} (F : FnG X.prog X.w X.K X.mg X.base l f fd ps sp) (hr : Room l X.A) (hg : X.A.guards = some []) (tk : Takes X W) (I : Inv X pins σ H s) (hb : BindsTo s fd args (ps.zip us)) (r : Vals vs us)
    (h : sp vs H Q fun cls d H' => W cls d σ H') : wpAny (model X.prog X.w) X.A (call (.ref f) args.pos args.kw) (EP X pins σ Q) X.xe s := by
  have pa := passAt tk σ
  refine wpAny_call (codeAny_mono (F.run X.A X.stack s H args us vs Q _ hr hg I.env0 hb r h) fun res s' hq => ?_)
  match res, hq with
  | .error e, hq => exact pa pins H s e s' I hq
  | .ok (.ret u), hq => exact I.after hq
  | .ok .next, hq => exact hq.elim
  | .ok .brk, hq => exact hq.elim
  | .ok .cont, hq => exact hq.elim
inductive Src where | pos (j : Nat) | kw (j : Nat) | df (j : Nat)
structure Shape where
  n : Nat
  ks : List Str
  arr : List Src
def srcG {α : Type} (d : α) (xs zs ds : List α) : Src → α
  | .pos j => xs.getD j d
  | .kw j => zs.getD j d
  | .df j => ds.getD j d
def arrG {α : Type} (d : α) (sh : Shape) (xs zs ds : List α) : List α := sh.arr.map (srcG d xs zs ds)
structure ShapeOk (K : PySem.W.Frag) (fd : FuncData) (ps : List Str) (ds : List Value) (sh : Shape) : Prop where
  len : sh.arr.length = ps.length
  to : ∀ (s : Shared) (us ws : List Value), K.In s.heap → us.length = sh.n → ws.length = sh.ks.length → BindsTo s fd ⟨us, sh.ks.zip ws⟩ (ps.zip (arrG .none sh us ws ds))
theorem RVs.getD {c : GC} {m : List Addr} {H : Hp} {xs : List MV} {us : List V} (r : RVs c m H xs us) (j : Nat) : RV c m H (xs.getD j .non) (us.getD j .non) := by
  by_cases h : j < xs.length
  · obtain ⟨v, h1, h2⟩ := r.get' (i := j) (x := xs[j]) (by simp [h])
    simpa [List.getD, h1, h] using h2
  · have h' : us.length ≤ j := by rw [← r.length]; omega
    simp [List.getD, List.getElem?_eq_none (show xs.length ≤ j by omega), List.getElem?_eq_none h']
    exact .non
theorem Vals.getD {vs : List V} {us : List Value} (r : Vals vs us) (j : Nat) : RelV (vs.getD j .non) (us.getD j .none) := by
  by_cases h : j < vs.length
  · obtain ⟨v, h1, h2⟩ := r.get (i := j) (x := vs[j]) (by simp [h])
    simpa [List.getD, h1, h] using h2
  · have h' : us.length ≤ j := by rw [← r.length]; omega
    simp [List.getD, List.getElem?_eq_none (show vs.length ≤ j by omega), List.getElem?_eq_none h']
    rfl
theorem arr_rvs {c : GC} {m : List Addr} {H : Hp} {xs zs ds : List MV} {us ws es : List V} (r1 : RVs c m H xs us) (r2 : RVs c m H zs ws) (r3 : RVs c m H ds es) (sh : Shape) : RVs c m H (arrG .non sh xs zs ds) (arrG .non sh us ws es) := by
  unfold arrG
  induction sh.arr with
  | nil => exact .nil
  | cons a l ih =>
    refine .cons ?_ ih
    cases a with
    | pos j => exact r1.getD j
    | kw j => exact r2.getD j
    | df j => exact r3.getD j
theorem arr_vals {xs zs ds : List V} {us ws es : List Value} (r1 : Vals xs us) (r2 : Vals zs ws) (r3 : Vals ds es) (sh : Shape) : Vals (arrG .non sh xs zs ds) (arrG .none sh us ws es) := by
  unfold arrG
  induction sh.arr with
  | nil => exact .nil
  | cons a l ih =>
    refine .cons ?_ ih
    cases a with
    | pos j => exact CS.Vals.getD r1 j
    | kw j => exact CS.Vals.getD r2 j
    | df j => exact CS.Vals.getD r3 j
def CvOk (A : AD) (X : Cx) (W : WX) (u : Value) (n : Nat) (ks : List Str) (g : List MV → List MV → Sto → R MV) : Prop :=
  ∀ (pins : List (Addr × Obj)) (σ : L2.St) (H : Hp) (s : Shared) (Q : VK) (m : List Addr) (st : Sto) (xs zs : List MV) (vs ws : List V) (us ts : List Value), Inv X pins σ H s → Rel (gc A X) m st H → RVs (gc A X) m H xs vs → Vals vs us → RVs (gc A X) m H zs ws → Vals ws ts →
    xs.length = n → zs.length = ks.length → Run (gc A X) W σ m H (g xs zs st) (kV (gc A X) Q) → wpAny (model X.prog X.w) X.A (call u us (ks.zip ts)) (EP X pins σ Q) X.xe s
def Dfs (c : GC) (dm : List MV) (ds : List Value) : Prop := ∃ dv : List V, Vals dv ds ∧ ∀ m H, RVs c m H dm dv
theorem cv_fn {sem : List MV → Sto → R MV} {dm : List MV} {ds : List Value} {sh : Shape} (F : FnG X.prog X.w X.K X.mg X.base l f fd ps (spM (gc A X) sem ps.length)) (hr : Room l X.A) (hg : X.A.guards = some []) (tk : Takes X W) (hs : ShapeOk X.K fd ps ds sh) (hd : Dfs (gc A X) dm ds) :
    CvOk A X W (.ref f) sh.n sh.ks (fun xs zs st => sem (arrG .non sh xs zs dm) st) := by
  intro pins σ H s Q m st xs zs vs ws us ts I r h1 q1 h2 q2 l1 l2 k
  obtain ⟨dv, hdv, hdm⟩ := hd
  have rv := arr_rvs h1 h2 (hdm m H) sh
  have ra := arr_vals q1 q2 hdv sh
  have b := hs.to s us ts I.kIn (by rw [← q1.length, ← h1.length]; exact l1) (by rw [← q2.length, ← h2.length]; exact l2)
  exact run_g (args := ⟨us, sh.ks.zip ts⟩) F hr hg tk I b ra ⟨by rw [arrG, List.length_map]; exact hs.len, m, st, _, r, rv, k.wish fun _ _ _ z => z⟩
theorem guards_make {B : Around} {C : Addr} {us : List Value} {kw : List (Str × Value)} (h : B.guards = some []) : (B.under (.builtin "type.__call__" ⟨.ref C :: us, kw⟩)).guards = some [] := by
  first
    | exact h
    | (show PySem.pushGuards _ B.guards = _; rw [h]; rfl)
    | simp [Around.under, Code.guards, Code.isGuard, pushGuards, h, guardIds]
def mkM (init : List MV → Sto → R MV) (k : Nat) (args : List MV) (st : Sto) : R MV :=
  bnd (init (.ref st.length :: args) (st ++ [.ins k []])) fun v st1 => match v with | .non => ret (.ref st.length) st1 | _ => none
def unself : Shape → Option Shape
  | ⟨n + 1, ks, arr⟩ => some ⟨n, ks, arr⟩
  | _ => none
theorem cv_mk {sem : List MV → Sto → R MV} {dm : List MV} {ds : List Value} {n : Nat} {ks : List Str} {arr : List Src} {C : Addr} {kc : Nat} (M : Mk X.K C f) (hca : A.ca kc = some C) (F : FnG X.prog X.w X.K X.mg X.base l f fd ps (spM (gc A X) sem ps.length)) (hr : Room (l + 1) X.A) (hg : X.A.guards = some []) (tk : Takes X W)
    (hs : ShapeOk X.K fd ps ds ⟨n + 1, ks, arr⟩) (hd : Dfs (gc A X) dm ds) :
    CvOk A X W (.ref C) n ks (fun xs zs st => mkM (fun ys st => sem (arrG .non ⟨n + 1, ks, arr⟩ ys zs dm) st) kc xs st) := by
  intro pins σ H s Q m st xs zs vs ws us ts I r h1 q1 h2 q2 l1 l2 k
  obtain ⟨dv, hdv, hdm⟩ := hd
  have nx : H (s.heap.objs.size + 1) = none := I.hok.fresh (Nat.le_succ _)
  have nd : H s.heap.objs.size = none := I.hok.fresh (Nat.le_refl _)
  have kp : ∀ b o, H b = some o → upd (upd H s.heap.objs.size (.own (s.heap.objs.size + 1))) (s.heap.objs.size + 1) (.ins C s.heap.objs.size []) b = some o := fun b o e => by
    rw [upd_ne (ne_of_none e nx), upd_ne (ne_of_none e nd)]; exact e
  obtain ⟨r2, e2⟩ := r.grow (o := .ins kc []) nx kp ⟨C, _, [], hca, upd_same, .nil⟩
  have I2 := Inv.made (C := C) I
  have hself : RV (gc A X) (m ++ [s.heap.objs.size + 1]) (upd (upd H s.heap.objs.size (.own (s.heap.objs.size + 1))) (s.heap.objs.size + 1) (.ins C s.heap.objs.size [])) (.ref st.length) (.ref (s.heap.objs.size + 1)) := .ref (by rw [← r.len]; simp)
  have rv := arr_rvs (.cons hself (h1.mono e2)) (h2.mono e2) (hdm _ _) ⟨n + 1, ks, arr⟩
  have ra := arr_vals (Paired.cons (show RelV (V.ref (s.heap.objs.size + 1)) (Value.ref (s.heap.objs.size + 1)) from rfl) q1) q2 hdv ⟨n + 1, ks, arr⟩
  have b := hs.to { s with heap := (s.heap.push PySem.W.emptyDict).push (PySem.W.instObj C s.heap.objs.size) } (.ref (s.heap.objs.size + 1) :: us) ts I2.kIn (by simp [← q1.length, ← h1.length, l1]) (by rw [← q2.length, ← h2.length]; exact l2)
  have k2 : Run (gc A X) W σ (m ++ [s.heap.objs.size + 1]) (upd (upd H s.heap.objs.size (.own (s.heap.objs.size + 1))) (s.heap.objs.size + 1) (.ins C s.heap.objs.size [])) _ _ := (Run.bnd (show Run (gc A X) W σ m H (bnd _ _) _ from k)).under e2
  have pa := passAt tk σ
  refine wpAny_call (make_map (f := f) I.kIn M.makes M.init (beq_iff_eq.mp M.fn) (codeAny_mono (F.run _ X.stack _ _ ⟨Value.ref (s.heap.objs.size + 1) :: us, ks.zip ts⟩ _ _ (fun v H2 => v = .non ∧ Q (.ref (s.heap.objs.size + 1)) H2) (fun cls d H' => W cls d σ H') (hr.make C us (ks.zip ts)) (guards_make hg)
    (I2.env0.make C us (ks.zip ts)) b ra ⟨by rw [arrG, List.length_map]; exact hs.len, _, _, _, r2, rv, ?_⟩) fun res s' hq => ?_))
  · refine (k2.wish fun _ _ _ z => z).imp fun v st1 m1 H1 r1 e1 k1 u hu => ?_
    match v, hu, k1 with
    | .non, .non, k1 => exact ⟨rfl, Run.ok k1 .refl r1 _ (hself.mono e1)⟩
    | .bl _, _, k1 => exact k1.elim
    | .int _, _, k1 => exact k1.elim
    | .str _, _, k1 => exact k1.elim
    | .tup _, _, k1 => exact k1.elim
    | .ref _, _, k1 => exact k1.elim
    | .fn _, _, k1 => exact k1.elim
    | .cl _, _, k1 => exact k1.elim
    | .ty _, _, k1 => exact k1.elim
  · match res, hq with
    | .error e, hq => exact pa pins _ _ e s' I2 hq
    | .ok (.ret u), hq =>
      obtain ⟨v, H', I3, rv, ev, q3⟩ := I2.after hq
      subst ev
      exact ⟨rv, ⟨V.ref (s.heap.objs.size + 1), H', I3, rfl, q3⟩⟩
    | .ok .next, hq => exact hq.elim
    | .ok .brk, hq => exact hq.elim
    | .ok .cont, hq => exact hq.elim
end
end CS
namespace CS
open PySem PySem.Spec PyProof.Rows L2
mutual
def lowV (n : Nat) : MV → Bool
  | .tup xs => lowVs n xs
  | .ref i => decide (i < n)
  | _ => true
def lowVs (n : Nat) : List MV → Bool
  | [] => true
  | x :: xs => lowV n x && lowVs n xs
end
def lowFs (n : Nat) : List (Str × MV) → Bool
  | [] => true
  | x :: xs => lowV n x.2 && lowFs n xs
def lowO (n : Nat) : MO → Bool
  | .lst xs => lowVs n xs
  | .frz xs => lowVs n xs
  | .ins _ fs => lowFs n fs
mutual
def eqV : MV → MV → Bool
  | .non, .non => true
  | .bl a, .bl b => a == b
  | .int a, .int b => a == b
  | .str a, .str b => a == b
  | .tup a, .tup b => eqVs a b
  | .ref a, .ref b => a == b
  | .fn a, .fn b => a == b
  | .cl a, .cl b => a == b
  | .ty a, .ty b => a == b
  | _, _ => false
def eqVs : List MV → List MV → Bool
  | [], [] => true
  | x :: xs, y :: ys => eqV x y && eqVs xs ys
  | _, _ => false
end
def eqFs : List (Str × MV) → List (Str × MV) → Bool
  | [], [] => true
  | x :: xs, y :: ys => x.1 == y.1 && eqV x.2 y.2 && eqFs xs ys
  | _, _ => false
def eqO : MO → MO → Bool
  | .lst a, .lst b => eqVs a b
  | .frz a, .frz b => eqVs a b
  | .ins k a, .ins l b => k == l && eqFs a b
  | _, _ => false
mutual
theorem eqV_refl : ∀ x : MV, eqV x x = true
  | .non => rfl
  | .bl a => by unfold eqV; exact beq_self_eq_true a
  | .int a => by unfold eqV; exact beq_self_eq_true a
  | .str a => by unfold eqV; exact beq_self_eq_true a
  | .tup a => by unfold eqV; exact eqVs_refl a
  | .ref a => by unfold eqV; exact beq_self_eq_true a
  | .fn a => by unfold eqV; exact beq_self_eq_true a
  | .cl a => by unfold eqV; exact beq_self_eq_true a
  | .ty a => by unfold eqV; exact beq_self_eq_true a
theorem eqVs_refl : ∀ x : List MV, eqVs x x = true
  | [] => rfl
  | x :: xs => by unfold eqVs; rw [eqV_refl x, eqVs_refl xs]; rfl
end
theorem eqFs_refl : ∀ x : List (Str × MV), eqFs x x = true
  | [] => rfl
  | x :: xs => by unfold eqFs; rw [eqV_refl x.2, eqFs_refl xs, beq_self_eq_true]; rfl
theorem eqO_refl : ∀ x : MO, eqO x x = true
  | .lst a => eqVs_refl a
  | .frz a => eqVs_refl a
  | .ins k a => by
    show (k == k && eqFs a a) = true
    rw [beq_self_eq_true, eqFs_refl]; rfl
mutual
theorem eqV_of : ∀ {x y : MV}, eqV x y = true → x = y
  | .non, y, h => by cases y <;> first | rfl | (unfold eqV at h; cases h)
  | .bl a, y, h => by cases y <;> first | (unfold eqV at h; exact congrArg _ (eq_of_beq h)) | (unfold eqV at h; cases h)
  | .int a, y, h => by cases y <;> first | (unfold eqV at h; exact congrArg _ (eq_of_beq h)) | (unfold eqV at h; cases h)
  | .str a, y, h => by cases y <;> first | (unfold eqV at h; exact congrArg _ (eq_of_beq h)) | (unfold eqV at h; cases h)
  | .tup a, y, h => by cases y <;> first | (unfold eqV at h; exact congrArg _ (eqVs_of h)) | (unfold eqV at h; cases h)
  | .ref a, y, h => by cases y <;> first | (unfold eqV at h; exact congrArg _ (eq_of_beq h)) | (unfold eqV at h; cases h)
  | .fn a, y, h => by cases y <;> first | (unfold eqV at h; exact congrArg _ (eq_of_beq h)) | (unfold eqV at h; cases h)
  | .cl a, y, h => by cases y <;> first | (unfold eqV at h; exact congrArg _ (eq_of_beq h)) | (unfold eqV at h; cases h)
  | .ty a, y, h => by cases y <;> first | (unfold eqV at h; exact congrArg _ (eq_of_beq h)) | (unfold eqV at h; cases h)
theorem eqVs_of : ∀ {x y : List MV}, eqVs x y = true → x = y
  | [], [], _ => rfl
  | [], _ :: _, h => by unfold eqVs at h; cases h
  | _ :: _, [], h => by unfold eqVs at h; cases h
  | x :: xs, y :: ys, h => by
    unfold eqVs at h
    rw [Bool.and_eq_true] at h
    rw [eqV_of h.1, eqVs_of h.2]
end
theorem eqFs_of : ∀ {x y : List (Str × MV)}, eqFs x y = true → x = y
  | [], [], _ => rfl
  | [], _ :: _, h => by unfold eqFs at h; cases h
  | _ :: _, [], h => by unfold eqFs at h; cases h
  | (p, q) :: xs, (r, s) :: ys, h => by
    unfold eqFs at h
    rw [Bool.and_eq_true, Bool.and_eq_true] at h
    have h1 : p = r := eq_of_beq h.1.1
    have h2 : q = s := eqV_of h.1.2
    rw [h1, h2, eqFs_of h.2]
theorem eqO_of : ∀ {x y : MO}, eqO x y = true → x = y
  | .lst a, y, h => by cases y <;> first | (exact congrArg _ (eqVs_of h)) | (unfold eqO at h; cases h)
  | .frz a, y, h => by cases y <;> first | (exact congrArg _ (eqVs_of h)) | (unfold eqO at h; cases h)
  | .ins k a, y, h => by
    cases y with
    | lst => unfold eqO at h; cases h
    | frz => unfold eqO at h; cases h
    | ins l b =>
      unfold eqO at h
      rw [Bool.and_eq_true] at h
      rw [eq_of_beq h.1, eqFs_of h.2]
def gcOk (st st' : Sto) : Bool := (List.range st.length).all fun i => match st[i]?, st'[i]? with
  | some a, some b => eqO b a || lowO st.length b
  | _, _ => false
def gcS (st st' : Sto) : Sto := if gcOk st st' then st'.take st.length else st'
mutual
theorem RV.low {c : GC} {m m1 : List Addr} {H : Hp} (e : ∀ i, i < n → m1[i]? = m[i]?) : ∀ {x : MV} {v : V}, RV c m H x v → lowV n x = true → RV c m1 H x v
  | _, _, .non, _ => .non
  | _, _, .bl b, _ => .bl b
  | _, _, .int i, _ => .int i
  | _, _, .str x, _ => .str x
  | _, _, .tup h r, k => .tup h (RVs.low e r (by unfold lowV at k; exact k))
  | _, _, .ref h, k => .ref ((e _ (by unfold lowV at k; exact of_decide_eq_true k)).trans h)
  | _, _, .fn h, _ => .fn h
  | _, _, .cl h, _ => .cl h
  | _, _, .ty n, _ => .ty n
theorem RVs.low {c : GC} {m m1 : List Addr} {H : Hp} (e : ∀ i, i < n → m1[i]? = m[i]?) : ∀ {xs : List MV} {vs : List V}, RVs c m H xs vs → lowVs n xs = true → RVs c m1 H xs vs
  | _, _, .nil, _ => .nil
  | _, _, .cons h r, k => by
    unfold lowVs at k
    rw [Bool.and_eq_true] at k
    exact .cons (RV.low e h k.1) (RVs.low e r k.2)
end
theorem RF.low {c : GC} {m m1 : List Addr} {H : Hp} {n : Nat} (e : ∀ i, i < n → m1[i]? = m[i]?) : ∀ {fs : List (Str × MV)} {gs : List (Str × V)}, RF c m H fs gs → lowFs n fs = true → RF c m1 H fs gs
  | _, _, .nil, _ => .nil
  | _, _, .cons h r, k => by
    unfold lowFs at k
    rw [Bool.and_eq_true] at k
    exact .cons ⟨h.1, h.2.low e k.1⟩ (RF.low e r k.2)
theorem RO.low {c : GC} {m m1 : List Addr} {H : Hp} {n : Nat} {a : Addr} {o : MO} (e : ∀ i, i < n → m1[i]? = m[i]?) (r : RO c m H a o) (k : lowO n o = true) : RO c m1 H a o := by
  cases o with
  | lst xs => obtain ⟨vs, h, q⟩ := r; exact ⟨vs, h, q.low e k⟩
  | frz xs => obtain ⟨u, vs, h, q⟩ := r; exact ⟨u, vs, h, q.low e k⟩
  | ins i fs => obtain ⟨C, dx, gs, h0, h, q⟩ := r; exact ⟨C, dx, gs, h0, h, RF.low e q k⟩
mutual
theorem RV.isLow {c : GC} {m : List Addr} {H : Hp} : ∀ {x : MV} {v : V}, RV c m H x v → lowV m.length x = true
  | _, _, .non => by unfold lowV; rfl
  | _, _, .bl b => by unfold lowV; rfl
  | _, _, .int i => by unfold lowV; rfl
  | _, _, .str x => by unfold lowV; rfl
  | _, _, .tup h r => by unfold lowV; exact RVs.isLow r
  | _, _, .ref h => by unfold lowV; exact decide_eq_true (List.getElem?_eq_some_iff.mp h).1
  | _, _, .fn h => by unfold lowV; rfl
  | _, _, .cl h => by unfold lowV; rfl
  | _, _, .ty n => by unfold lowV; rfl
theorem RVs.isLow {c : GC} {m : List Addr} {H : Hp} : ∀ {xs : List MV} {vs : List V}, RVs c m H xs vs → lowVs m.length xs = true
  | _, _, .nil => rfl
  | _, _, .cons h r => by unfold lowVs; rw [RV.isLow h, RVs.isLow r]; rfl
end
theorem RF.isLow {c : GC} {m : List Addr} {H : Hp} : ∀ {fs : List (Str × MV)} {gs : List (Str × V)}, RF c m H fs gs → lowFs m.length fs = true
  | _, _, .nil => rfl
  | _, _, .cons h r => by unfold lowFs; rw [h.2.isLow, RF.isLow r]; rfl
theorem RO.isLow {c : GC} {m : List Addr} {H : Hp} {a : Addr} {o : MO} (r : RO c m H a o) : lowO m.length o = true := by
  cases o with
  | lst xs => obtain ⟨vs, h, q⟩ := r; exact q.isLow
  | frz xs => obtain ⟨u, vs, h, q⟩ := r; exact q.isLow
  | ins i fs => obtain ⟨C, dx, gs, h0, h, q⟩ := r; exact RF.isLow q
section
variable {c : GC} {m m' : List Addr} {st st' : Sto} {H H' : Hp}
def gcM (st st' : Sto) (m' : List Addr) : List Addr := if gcOk st st' then m'.take st.length else m'
theorem gc_rel (r : Rel c m st H) (e : Ext c m H m' H') (r' : Rel c m' st' H') : Rel c (gcM st st' m') (gcS st st') H' ∧ Ext c m H (gcM st st' m') H' := by
  unfold gcM gcS
  by_cases g : gcOk st st' = true
  · rw [if_pos g, if_pos g]
    obtain ⟨t, rfl⟩ := e.pre
    have hl : (m ++ t).take st.length = m := by rw [← r.len, List.take_left]
    have at_ : ∀ i, i < st.length → m[i]? = (m ++ t)[i]? := fun i hi => by rw [List.getElem?_append_left (by rw [r.len]; exact hi)]
    rw [hl]
    refine ⟨⟨?_, r.nd, fun i o h => ?_⟩, ⟨⟨[], by simp⟩, e.tup, fun a h => .inl h, e.frame, e.live⟩⟩
    · rw [List.length_take, r.len, ← r'.len, List.length_append, r.len]; omega
    · have hi : i < st.length := by
        have := (List.getElem?_eq_some_iff.mp h).1
        rw [List.length_take] at this; omega
      rw [List.getElem?_take_of_lt hi] at h
      obtain ⟨a, ha, q⟩ := r'.obj i o h
      refine ⟨a, (at_ i hi).trans ha, RO.low at_ q ?_⟩
      unfold gcOk at g
      rw [List.all_eq_true] at g
      have gi := g i (List.mem_range.mpr hi)
      rw [h] at gi
      cases q0 : st[i]? with
      | none => rw [q0] at gi; cases gi
      | some o0 =>
        rw [q0] at gi
        simp only [Bool.or_eq_true] at gi
        rcases gi with z | z
        · have := eqO_of z
          subst this
          obtain ⟨b, hb, qb⟩ := r.obj i o q0
          rw [← r.len]; exact qb.isLow
        · exact z
  · rw [if_neg g, if_neg g]
    exact ⟨r', e⟩
theorem gcM_at (r : Rel c m st H) (e : Ext c m H m' H') : ∀ i, i < st.length → (gcM st st' m')[i]? = m'[i]? := fun i hi => by
  unfold gcM
  split
  · rw [List.getElem?_take_of_lt hi]
  · rfl
end
def lowX (n : Nat) (x : MX) : Bool := lowFs n x.2
def fin (st : Sto) : SR → R MV
  | none => none
  | some (.nx, _, st') => ret .non (gcS st st')
  | some (.rt v, _, st') => if lowV st.length v then ret v (gcS st st') else ret v st'
  | some (.exc x, _, st') => if lowX st.length x then some (.error x, gcS st st') else some (.error x, st')
  | some (.bk, _, _) => none
  | some (.ct, _, _) => none
def start (n : Nat) (args : List MV) : MEnv := args.map some ++ List.replicate (n - args.length) none
def defM (n : Nat) (d : DS) (args : List MV) (st : Sto) : R MV := fin st (d (start n args) st)
theorem fin_of {c : GC} {W : WX} {W' : WX} {σ : L2.St} {m : List Addr} {st : Sto} {H : Hp} {r : SR} {Q : VK} (rl : Rel c m st H) (h : Run c W σ m H (fin st r) (kV c Q)) (hW : ∀ cls d σ' H', W cls d σ H' → W' cls d σ' H') :
    SRun c W' { nx := fun _ H' => Q .non H', rt := Q } m H r := by
  match r, h with
  | none, h => exact h
  | some (.nx, ρ, st'), h =>
    intro m' H' σ' e r' _
    obtain ⟨r2, e2⟩ := gc_rel rl e r'
    exact Run.ok h e2 r2 _ .non
  | some (.rt v, ρ, st'), h =>
    intro m' H' u e r' hv
    unfold fin at h
    simp only at h
    split at h
    · rename_i lv
      obtain ⟨r2, e2⟩ := gc_rel rl e r'
      exact Run.ok h e2 r2 u (RV.low (gcM_at rl e) hv lv)
    · exact Run.ok h e r' u hv
  | some (.exc x, ρ, st'), h =>
    intro m' H' σ' cls d e r' _ hx
    unfold fin at h
    simp only at h
    split at h
    · rename_i lv
      obtain ⟨r2, e2⟩ := gc_rel rl e r'
      refine hW _ _ _ _ (h _ _ cls d e2 r2 ?_)
      obtain ⟨C, hC, hc, z⟩ := hx
      refine ⟨C, hC, hc, z.imp id fun ⟨dd, gs, a1, a2, a3⟩ => ⟨dd, gs, a1, a2, RF.low (gcM_at rl e) a3 lv⟩⟩
    · exact hW _ _ _ _ (h _ _ cls d e r' hx)
  | some (.bk, _, _), h => exact (show False from h).elim
  | some (.ct, _, _), h => exact (show False from h).elim
theorem start_env {c : GC} {m : List Addr} {H : Hp} {xs : List MV} {vs : List V} (r : RVs c m H xs vs) (N : List Str) : REnv c m H (start N.length xs) (L2.start N vs) := by
  unfold start L2.start
  rw [r.length]
  refine ⟨by simp [r.length], fun i x h => ?_⟩
  by_cases hi : i < xs.length
  · rw [List.getElem?_append_left (by simpa using hi), List.getElem?_map] at h
    cases q : xs[i]? with
    | none => rw [q] at h; cases h
    | some y =>
      rw [q] at h
      cases h
      obtain ⟨v, h1, h2⟩ := r.get' q
      refine ⟨v, ?_, h2⟩
      rw [List.getElem?_append_left (by rw [List.length_map, ← r.length]; exact hi), List.getElem?_map, h1]
      rfl
  · rw [List.getElem?_append_right (by simpa using hi), List.getElem?_replicate] at h
    split at h <;> cases h
section
variable {P : Program} {w : World} {K : PySem.W.Frag} {mg : Str → Option Value} {base : Heap}
structure Ctx (P : Program) (w : World) (K : PySem.W.Frag) (mg : Str → Option Value) (base : Heap) (k : Nat) (N : List Str) (qual : Str) (scope : Scope) (X : Cx) (W : WX) : Prop where
  prog : X.prog = P
  w : X.w = w
  K : X.K = K
  mg : X.mg = mg
  base : X.base = base
  N : X.N = N
  scope : X.env.scope = scope
  room : Room k X.A
  guards : X.A.guards = some []
  tk : Takes X W
  own : PassesOwn (model X.prog X.w) X.A X.env X.xe
  calm : X.calm = true
theorem fnG_of {A : AD} {x qual : Str} {params : Arguments} {body : List Stmt} {scope : Scope} {dvs : List V} {kws : List (Str × V)} {f : Addr} {fd : FuncData} {N ps : List Str} {k : Nat} {den : DS} (F : FunD K x qual params body scope dvs kws f fd) (S : FnScope N ps scope)
    (hbody : ∀ (cdv : Value) (Ar : Around) (outer : List Env) (s : Shared) (H : Hp) (E : XK), Room k (Ar.deeper (envOfC qual scope s.heap.objs.size f cdv)) → (Ar.deeper (envOfC qual scope s.heap.objs.size f cdv)).guards = some [] →
      PMSs A (cxOf (L2.CX P w) P w K mg base N qual scope f cdv Ar outer s H E) (fun cls d _ H' => E cls d H') body den) :
    FnG P w K mg base (k + 1) f fd ps (spM ⟨P, w, K, mg, base, A.fa, A.ca⟩ (defM N.length den) ps.length) := by
  refine ⟨fun vs H Q E h => h.1, fun Ar outer s H args us vs Q E hr hg e0 hb r h => ?_⟩
  obtain ⟨oc, od, dV, kV, doc, pm, an, cdv, ct, osl, rfl, lk, hcd, _, _⟩ := F.ex
  refine LamX.run_ofS lk hcd S hr e0 hb r h.1 fun hr2 => ⟨_, hbody cdv Ar outer s H E hr2 hg, ?_⟩
  obtain ⟨hl, m, st, xs, rl, rx, k⟩ := h
  exact ⟨m, _, st, rl, start_env rx N, fin_of rl k fun _ _ _ _ z => z⟩
end
end CS
namespace CS
open PySem PySem.Spec PyProof.Rows L2
theorem Run.known {c : GC} {W : WX} {σ : L2.St} {m : List Addr} {H : Hp} {α : Type} {r : R α} {K : Kn α} (h : Run c W σ m H r K) : Run c W σ m H r (fun a st m' H' => r = some (.ok a, st) ∧ K a st m' H') := by
  match r, h with
  | none, h => exact h
  | some (.error x, st), h => exact h
  | some (.ok a, st), h => exact fun m1 H1 e1 r1 => ⟨rfl, h m1 H1 e1 r1⟩
def LenA (fa : DA) (n : Nat) : Prop := ∀ ρ st xs st', fa ρ st = some (.ok xs, st') → xs.length = n
theorem lenA_nil : LenA aNil 0 := fun ρ st xs st' h => by cases h; rfl
theorem lenA_cons {f : DE} {g : DA} {n : Nat} (h : LenA g n) : LenA (aCons f g) (n + 1) := fun ρ st xs st' e => by
  unfold aCons bnd at e
  split at e
  · cases e
  · cases e
  · rename_i a st1 _
    dsimp only at e
    split at e
    · cases e
    · cases e
    · rename_i ys st2 h2
      cases e
      rw [List.length_cons, h _ _ _ _ h2]
section
variable {A : AD} {X : Cx} {W : WX} {u : Value} {x : Str} {p pos : Pos} {e : Expr} {es : List Expr} {n : Nat} {fa fk : DA} {g : List MV → Sto → R MV}
abbrev PMK (A : AD) (X : Cx) (W : WX) (kws : List Keyword) (f : DA) : Prop := PK X kws (tMA (gc A X) W f)
theorem _root_.L2.PK.imp {X : Cx} {e : List Keyword} {t t' : TA} (h : PK X e t) (q : ∀ σ H Q, t' σ H Q → t σ H Q) : PK X e t' := ⟨fun pos pins s σ H Q I w => h.run pos pins s σ H Q I (q _ _ _ w)⟩
theorem pmk_nil : PMK A X W [] aNil := pk_nil.imp fun σ H Q ⟨m, ρ, st, r, v, k⟩ => Run.ok k .refl r _ .nil
theorem pmk_cons {nm : Option Str} {kpos : Pos} {kws : List Keyword} {fe : DE} {g : DA} (ha : PM A X W e fe) (hr : PMK A X W kws g) : PMK A X W (⟨nm, e, kpos⟩ :: kws) (aCons fe g) := by
  refine (pk_cons ha hr).imp fun σ H Q ⟨m, ρ, st, r, v, k⟩ => ?_
  refine tM.thenG r v k fun x u st1 m1 H1 r1 e1 v1 hu k1 => ?_
  refine tMA.thenG r1 v1 k1 fun xs us st2 m2 H2 r2 e2 v2 hus k2 => ?_
  exact Run.ok k2 .refl r2 _ (.cons (hu.mono e2) hus)
abbrev AftA (A : AD) (X : Cx) (W : WX) (σ : L2.St) (n : Nat) (g : List MV → Sto → R MV) (Q : VK) : List V → Hp → Prop := fun vs H1 => ∃ m1 st1 xs, Rel (gc A X) m1 st1 H1 ∧ RVs (gc A X) m1 H1 xs vs ∧ xs.length = n ∧ Run (gc A X) W σ m1 H1 (g xs st1) (kV (gc A X) Q)
theorem aftA_of {σ : L2.St} {H : Hp} {Q : VK} (hl : LenA fa n) (h : tM (gc A X) W (eCall g fa) σ H Q) : tMA (gc A X) W fa σ H (AftA A X W σ n g Q) := by
  obtain ⟨m, ρ, st, r, v, k⟩ := h
  refine ⟨m, ρ, st, r, v, (Run.bnd k).known.imp fun xs st1 m1 H1 r1 e1 ⟨eq, k1⟩ us hus => ?_⟩
  exact ⟨m1, st1, xs, r1, hus, hl _ _ _ _ eq, k1⟩
theorem pm_callP (h : CvOk A X W u n [] (fun xs _ st => g xs st)) (hg : Gl X x) (hm : X.mg x = some u) (hk : PySem.W.keepIn X.K u = true) (ha : PMA A X W (e :: es) fa) (hl : LenA fa n) (hdb : (x == ("__debug__" : Str)) = false)
    (he : starEach (e :: es) X.env = (false, eval e X.env) :: starEach es X.env) (hpl : (backTo pos (starEach es X.env)).any (·.1) = false) : PM A X W (.Call (.Name x p) (e :: es) [] pos) (eCall g fa) := by
  refine ⟨fun pins s σ H Q I w => ?_⟩
  refine wpAny_Call_Name_kw (ld_glob I hg hm ?_ hdb)
  refine PySem.W.callWith_K (h₀ := X.base) I.ok.mod.kin hk (thn (ha.run pos pins s σ H _ I (aftA_of hl w)) fun us s1 hh => ?_) he hpl
  obtain ⟨vs, H1, I1, rv, m1, st1, xs, r1, hx, hn, k1⟩ := hh
  exact ⟨I1.kIn, h pins σ H1 s1 Q m1 st1 xs [] vs [] us [] I1 r1 hx rv .nil .nil hn rfl k1⟩
theorem pm_call0 (h : CvOk A X W u 0 [] (fun xs _ st => g xs st)) (hg : Gl X x) (hm : X.mg x = some u) (hk : PySem.W.keepIn X.K u = true) (hdb : (x == ("__debug__" : Str)) = false) : PM A X W (.Call (.Name x p) [] [] pos) (eCall g aNil) := by
  refine ⟨fun pins s σ H Q I ⟨m, ρ, st, r, v, k⟩ => ?_⟩
  refine wpAny_Call_Name_kw (ld_glob I hg hm ?_ hdb)
  exact PySem.W.callWith_K0 I.kIn hk (h pins σ H s Q m st [] [] [] [] [] [] I r .nil .nil .nil .nil rfl rfl k)
def eCallK (g : List MV → List MV → Sto → R MV) (fa fk : DA) : DE := fun ρ st => bnd (fa ρ st) fun xs st1 => bnd (fk ρ st1) fun zs st2 => g xs zs st2
variable {gk : List MV → List MV → Sto → R MV} {ks : List Str} {kws : List Keyword}
theorem pm_callK (h : CvOk A X W u n ks gk) (hg : Gl X x) (hm : X.mg x = some u) (hk : PySem.W.keepIn X.K u = true) (ha : PMA A X W (e :: es) fa) (hl : LenA fa n) (hkw : PMK A X W kws fk) (hlk : LenA fk ks.length)
    (hall : (backToKw pos (keywordEach kws X.env)).all (·.1.isSome) = true) (hks : (backToKw pos (keywordEach kws X.env)).filterMap (·.1) = ks) (hdb : (x == ("__debug__" : Str)) = false)
    (he : starEach (e :: es) X.env = (false, eval e X.env) :: starEach es X.env) (hpl : ((backTo pos (starEach (e :: es) X.env)).any (·.1) || (backToKw pos (keywordEach kws X.env)).any (·.1.isNone)) = false) :
    PM A X W (.Call (.Name x p) (e :: es) kws pos) (eCallK gk fa fk) := by
  refine ⟨fun pins s σ H Q I ⟨m, ρ, st, r, v, k⟩ => ?_⟩
  refine wpAny_Call_Name_kw (ld_glob I hg hm ?_ hdb)
  have w : tMA (gc A X) W fa σ H (fun vs H1 => ∃ m1 st1 xs, Rel (gc A X) m1 st1 H1 ∧ REnv (gc A X) m1 H1 ρ σ ∧ RVs (gc A X) m1 H1 xs vs ∧ xs.length = n ∧ Run (gc A X) W σ m1 H1 (bnd (fk ρ st1) fun zs st2 => gk xs zs st2) (kV (gc A X) Q)) :=
    ⟨m, ρ, st, r, v, (Run.bnd k).known.imp fun xs st1 m1 H1 r1 e1 ⟨eq, k1⟩ us hus => ⟨m1, st1, xs, r1, v.mono e1, hus, hl _ _ _ _ eq, k1⟩⟩
  refine PySem.W.callWith_KW (h₀ := X.base) I.ok.mod.kin hk hall (thn (ha.run pos pins s σ H _ I w) fun us s1 hh => ?_) hpl he
  obtain ⟨vs, H1, I1, rv, m1, st1, xs, r1, v1, hx, hn, k1⟩ := hh
  have w2 : tMA (gc A X) W fk σ H1 (fun ws H2 => ∃ m2 st2 zs, Rel (gc A X) m2 st2 H2 ∧ RVs (gc A X) m2 H2 xs vs ∧ RVs (gc A X) m2 H2 zs ws ∧ zs.length = ks.length ∧ Run (gc A X) W σ m2 H2 (gk xs zs st2) (kV (gc A X) Q)) :=
    ⟨m1, ρ, st1, r1, v1, (Run.bnd k1).known.imp fun zs st2 m2 H2 r2 e2 ⟨eq, k2⟩ us hus => ⟨m2, st2, zs, r2, hx.mono e2, hus, hlk _ _ _ _ eq, k2⟩⟩
  refine thn (hkw.run pos pins s1 σ H1 _ I1 w2) fun ws s2 hh2 => ?_
  obtain ⟨zv, H2, I2, rz, m2, st2, zs, r2, hx2, hz, hzl, k2⟩ := hh2
  rw [hks]
  exact ⟨I2.kIn, h pins σ H2 s2 Q m2 st2 xs zs vs zv us ws I2 r2 hx2 rv hz rz hn hzl k2⟩
theorem pm_callK0 (h : CvOk A X W u 0 ks gk) (hg : Gl X x) (hm : X.mg x = some u) (hk : PySem.W.keepIn X.K u = true) (hkw : PMK A X W kws fk) (hlk : LenA fk ks.length)
    (hall : (backToKw pos (keywordEach kws X.env)).all (·.1.isSome) = true) (hks : (backToKw pos (keywordEach kws X.env)).filterMap (·.1) = ks) (hdb : (x == ("__debug__" : Str)) = false)
    (hpl : ((backTo pos (starEach [] X.env)).any (·.1) || (backToKw pos (keywordEach kws X.env)).any (·.1.isNone)) = false) :
    PM A X W (.Call (.Name x p) [] kws pos) (eCallK gk aNil fk) := by
  refine ⟨fun pins s σ H Q I ⟨m, ρ, st, r, v, k⟩ => ?_⟩
  refine wpAny_Call_Name_kw (ld_glob I hg hm ?_ hdb)
  have w2 : tMA (gc A X) W fk σ H (fun ws H2 => ∃ m2 st2 zs, Rel (gc A X) m2 st2 H2 ∧ RVs (gc A X) m2 H2 zs ws ∧ zs.length = ks.length ∧ Run (gc A X) W σ m2 H2 (gk [] zs st2) (kV (gc A X) Q)) :=
    ⟨m, ρ, st, r, v, (Run.bnd (r := fk ρ st) (f := fun zs st2 => gk [] zs st2) k).known.imp fun zs st2 m2 H2 r2 e2 ⟨eq, k2⟩ us hus => ⟨m2, st2, zs, r2, hus, hlk _ _ _ _ eq, k2⟩⟩
  refine PySem.W.callWith_KW0 (h₀ := X.base) I.ok.mod.kin hk hall (thn (hkw.run pos pins s σ H _ I w2) fun ws s2 hh2 => ?_) hpl
  obtain ⟨zv, H2, I2, rz, m2, st2, zs, r2, hz, hzl, k2⟩ := hh2
  rw [hks]
  exact ⟨I2.kIn, h pins σ H2 s2 Q m2 st2 [] zs [] zv [] ws I2 r2 .nil .nil hz rz rfl hzl k2⟩
theorem cv_pos {sem : List MV → Sto → R MV} {l : Nat} {f : Addr} {fd : FuncData} {ps : List Str} (F : FnG X.prog X.w X.K X.mg X.base l f fd ps (spM (gc A X) sem ps.length)) (hr : Room l X.A) (hg : X.A.guards = some []) (tk : Takes X W) (hb : Binds X.K fd ps []) :
    CvOk A X W (.ref f) ps.length [] (fun xs _ st => sem xs st) := by
  intro pins σ H s Q m st xs zs vs ws us ts I r h1 q1 h2 q2 l1 l2 k
  have hz : ts = [] := by
    cases ts with
    | nil => rfl
    | cons a b => rw [h2.length, q2.length] at l2; cases l2
  subst hz
  have lu : (us ++ []).length = ps.length := by rw [List.append_nil, ← q1.length, ← h1.length]; exact l1
  have b := hb s us I.kIn lu
  rw [List.append_nil] at b
  exact run_g (args := ⟨us, []⟩) F hr hg tk I b q1 ⟨by rw [← h1.length]; exact l1, m, st, _, r, h1, k.wish fun _ _ _ z => z⟩
def FlsOk (A : AD) (K : PySem.W.Frag) (ks : List Nat) (f : Str) : Prop := ∀ k ∈ ks, ∀ C, A.ca k = some C → Cls K C ∧ NoAttr K C f
def eFld (ks : List Nat) (f : Str) (fa : DE) : DE := fun ρ st => bnd (fa ρ st) fun x st1 => match x with
  | .ref i => (match st1[i]? with
    | some (.ins k fs) => if ks.contains k then (match fs.lookup f with | some v => ret v st1 | none => none) else none
    | _ => none)
  | _ => none
theorem pm_fld {kc : List Nat} {f : Str} {fe : DE} (hf : FlsOk A X.K kc f) (he : PM A X W e fe) (hb : attributeBase e f X.env (eval e X.env) = eval e X.env) : PM A X W (.Attribute e f pos) (eFld kc f fe) := by
  refine (pe_fld he hb).imp fun σ H Q ⟨m, ρ, st, r, v, k⟩ => ?_
  refine tM.then r v k fun x u st1 m1 H1 r1 e1 v1 hu k1 => ?_
  cases x with
  | ref i =>
    cases hu with
    | @ref i a hi =>
    dsimp only at k1
    split at k1
    · rename_i kk fs hs
      split at k1
      · rename_i hk
        obtain ⟨C, dx, gs, h0, h1, h2⟩ := r1.ins hs hi
        obtain ⟨c1, c2⟩ := hf kk (by simpa using hk) C h0
        split at k1
        · rename_i w hl
          obtain ⟨u, hu, rw'⟩ := RF.look h2 hl
          exact ⟨a, C, dx, gs, u, rfl, h1, c1, c2, hu, Run.ok k1 .refl r1 u rw'⟩
        · exact k1.elim
      · exact k1.elim
    · exact k1.elim
  | _ => exact k1.elim
def sFl (ks : List Nat) (f : Str) (fo fv : DE) : DS := fun ρ st => sb ρ (fv ρ st) fun y st1 => sb ρ (fo ρ st1) fun x st2 => match x with
  | .ref i => (match st2[i]? with
    | some (.ins k fs) => if ks.contains k && decide (fs.length < 1000) then some (.nx, ρ, st2.set i (.ins k (putM f y fs))) else none
    | _ => none)
  | _ => none
theorem pms_fld {kc : List Nat} {f : Str} {o value : Expr} {fo fv : DE} {pos' : Pos} (hf : FlsOk A X.K kc f) (ho : PM A X W o fo) (hv : PM A X W value fv) (hs : swapsWith value (some (.Attribute o f pos')) pos.line X.env = pure false) : PMS A X W (.Assign [.Attribute o f pos'] value pos) (sFl kc f fo fv) := by
  refine (ps_fld ho hv hs).imp fun D σ H ⟨m, ρ, st, r, w, k⟩ => ?_
  refine ⟨m, ρ, st, r, w, (SRun.sb k w).imp fun y st1 m1 H1 r1 e1 k1 uy hy => ?_⟩
  refine ⟨m1, ρ, st1, r1, w.mono e1, (SRun.sb k1 (w.mono e1)).imp fun x st2 m2 H2 r2 e2 k2 ux hx => ?_⟩
  cases x with
  | ref i =>
    cases hx with
    | @ref i a hi =>
    dsimp only at k2
    split at k2
    · rename_i kk fs hs
      split at k2
      · rename_i hk
        rw [Bool.and_eq_true] at hk
        obtain ⟨C, dx, gs, h0, h1, h2⟩ := r2.ins hs hi
        obtain ⟨c1, c2⟩ := hf kk (by simpa using hk.1) C h0
        have hl : gs.length < 1000 := by rw [← RF.len h2]; exact of_decide_eq_true hk.2
        refine ⟨a, C, dx, gs, rfl, h1, c1, c2, hl, ?_⟩
        obtain ⟨r3, e3⟩ := r2.write (o' := .ins kk (putM f y fs)) (u := .ins C dx (putF f uy gs)) hi hs (fun _ z => by rw [h1] at z; cases z) (fun _ _ z => by rw [h1] at z; cases z)
          fun e => ⟨C, dx, _, h0, upd_same, RF.mono e (RF.put (hy.mono e2) h2)⟩
        exact k2 m2 _ σ e3 r3 (w.mono (e1.trans (e2.trans e3)))
      · exact k2.elim
    · exact k2.elim
  | _ => exact k2.elim
def MtsOk (A : AD) (X : Cx) (W : WX) (m : Str) (n : Nat) (t : List (Nat × (List MV → Sto → R MV))) : Prop :=
  ∀ k g, t.lookup k = some g → ∀ C, A.ca k = some C → ∃ f, Cls X.K C ∧ Meth X.K C m f ∧ CvOk A X W (.ref f) n [] (fun xs _ st => g xs st)
def eMth (t : List (Nat × (List MV → Sto → R MV))) (m : Str) (fo : DE) (fa : DA) : DE := fun ρ st => bnd (fo ρ st) fun x st1 => match x with
  | .ref i => (match st1[i]? with
    | some (.ins k fs) => (match t.lookup k, fs.lookup m with
      | some g, none => bnd (fa ρ st1) fun xs st2 => g (x :: xs) st2
      | _, _ => none)
    | _ => none)
  | _ => none
theorem pm_mth {t : List (Nat × (List MV → Sto → R MV))} {o : Expr} {fo : DE} {mt : Str} {apos : Pos} {pl : Sem Bool} (ht : MtsOk A X W mt (n + 1) t) (ho : PM A X W o fo) (ha : PMA A X W (e :: es) fa) (hl : LenA fa n)
    (hst : starEach (e :: es) X.env = (false, eval e X.env) :: starEach es X.env) (hpl : (backTo pos (starEach es X.env)).any (·.1) = false)
    (hev : eval (.Call (.Attribute o mt apos) (e :: es) [] pos) X.env = (do
      let ov ← eval o X.env
      standAt apos.atName
      let (f, first) ← holding [ov] (getMethod ov mt pl)
      callWith pos f first (backTo pos (starEach (e :: es) X.env)) (backToKw pos (keywordEach [] X.env)))) :
    PM A X W (.Call (.Attribute o mt apos) (e :: es) [] pos) (eMth t mt fo fa) := by
  refine ⟨fun pins s σ H Q I ⟨m, ρ, st, r, v, k⟩ => ?_⟩
  have w : tM (gc A X) W fo σ H (fun u H1 => ∃ m1 st1 x, Rel (gc A X) m1 st1 H1 ∧ REnv (gc A X) m1 H1 ρ σ ∧ RV (gc A X) m1 H1 x u ∧ Run (gc A X) W σ m1 H1 (match x with
      | .ref i => (match st1[i]? with
        | some (.ins k fs) => (match t.lookup k, fs.lookup mt with
          | some g, none => bnd (fa ρ st1) fun xs st2 => g (x :: xs) st2
          | _, _ => none)
        | _ => none)
      | _ => none) (kV (gc A X) Q)) := tM.thenG r v k fun x u st1 m1 H1 r1 e1 v1 hu k1 => ⟨m1, st1, x, r1, v1, hu, k1⟩
  refine PySem.W.methodCall_KW (pl := pl) (thn (ho.run pins s σ H _ I w) fun ov s1 hh => ?_) hev
  obtain ⟨u, H1, I1, ru, m1, st1, x, r1, v1, hu, k1⟩ := hh
  cases x with
  | ref i =>
    cases hu with
    | @ref i a hi =>
    obtain rfl : ov = Value.ref a := ru
    dsimp only at k1
    split at k1
    · rename_i kk fs hs
      split at k1
      · rename_i g hg hn
        obtain ⟨C, dx, gs, h0, h1, h2⟩ := r1.ins hs hi
        obtain ⟨f, c1, c2, cv⟩ := ht kk g hg C h0
        refine getmeth_ok I1 h1 c1 c2 (RF.none h2 hn) ?_
        have w2 : tMA (gc A X) W fa σ H1 (fun vs H2 => ∃ m2 st2 xs, Rel (gc A X) m2 st2 H2 ∧ RVs (gc A X) m2 H2 (.ref i :: xs) (.ref a :: vs) ∧ xs.length = n ∧ Run (gc A X) W σ m2 H2 (g (.ref i :: xs) st2) (kV (gc A X) Q)) :=
          ⟨m1, ρ, st1, r1, v1, (Run.bnd k1).known.imp fun xs st2 m2 H2 r2 e2 ⟨eq, k2⟩ us hus => ⟨m2, st2, xs, r2, .cons (.ref (e2.at hi)) hus, hl _ _ _ _ eq, k2⟩⟩
        refine PySem.W.callWith_K (first := [.ref a]) (h₀ := X.base) I.ok.mod.kin c2.kp (thn (ha.run pos pins s1 σ H1 _ I1 w2) fun us s2 hh2 => ?_) hst hpl
        obtain ⟨vs, H2, I2, rv, m2, st2, xs, r2, hx, hn2, k2⟩ := hh2
        exact ⟨I2.kIn, cv pins σ H2 s2 Q m2 st2 _ [] _ [] (.ref a :: us) [] I2 r2 hx (.cons rfl rv) .nil .nil (by rw [List.length_cons, hn2]) rfl k2⟩
      · exact k1.elim
    · exact k1.elim
  | _ => exact k1.elim
theorem pm_mth0 {t : List (Nat × (List MV → Sto → R MV))} {o : Expr} {fo : DE} {mt : Str} {apos : Pos} {pl : Sem Bool} (ht : MtsOk A X W mt 1 t) (ho : PM A X W o fo)
    (hev : eval (.Call (.Attribute o mt apos) [] [] pos) X.env = (do
      let ov ← eval o X.env
      standAt apos.atName
      let (f, first) ← holding [ov] (getMethod ov mt pl)
      callWith pos f first (backTo pos (starEach [] X.env)) (backToKw pos (keywordEach [] X.env)))) :
    PM A X W (.Call (.Attribute o mt apos) [] [] pos) (eMth t mt fo aNil) := by
  refine ⟨fun pins s σ H Q I ⟨m, ρ, st, r, v, k⟩ => ?_⟩
  have w : tM (gc A X) W fo σ H (fun u H1 => ∃ m1 st1 x, Rel (gc A X) m1 st1 H1 ∧ RV (gc A X) m1 H1 x u ∧ Run (gc A X) W σ m1 H1 (match x with
      | .ref i => (match st1[i]? with
        | some (.ins k fs) => (match t.lookup k, fs.lookup mt with
          | some g, none => bnd (aNil ρ st1) fun xs st2 => g (x :: xs) st2
          | _, _ => none)
        | _ => none)
      | _ => none) (kV (gc A X) Q)) := tM.thenG r v k fun x u st1 m1 H1 r1 e1 v1 hu k1 => ⟨m1, st1, x, r1, hu, k1⟩
  refine PySem.W.methodCall_KW (pl := pl) (thn (ho.run pins s σ H _ I w) fun ov s1 hh => ?_) hev
  obtain ⟨u, H1, I1, ru, m1, st1, x, r1, hu, k1⟩ := hh
  cases x with
  | ref i =>
    cases hu with
    | @ref i a hi =>
    obtain rfl : ov = Value.ref a := ru
    dsimp only at k1
    split at k1
    · rename_i kk fs hs
      split at k1
      · rename_i g hg hn
        obtain ⟨C, dx, gs, h0, h1, h2⟩ := r1.ins hs hi
        obtain ⟨f, c1, c2, cv⟩ := ht kk g hg C h0
        refine getmeth_ok I1 h1 c1 c2 (RF.none h2 hn) ?_
        exact PySem.W.callWith_K0 (first := [.ref a]) I1.kIn c2.kp (cv pins σ H1 s1 Q m1 st1 [.ref i] [] [.ref a] [] [.ref a] [] I1 r1 (.cons (.ref hi) .nil) (.cons rfl .nil) .nil .nil rfl rfl k1)
      · exact k1.elim
    · exact k1.elim
  | _ => exact k1.elim
end
end CS
namespace CS
open PySem PySem.Spec PyProof.Rows L2
structure SubB (X : Cx) (B : Around) : Prop where
  fr : B.frames = X.A.frames
  gd : B.guards = X.A.guards
  hd : B.handled = X.A.handled
  dp : B.depth ≤ X.A.depth + 3
  un : B.units ≤ X.A.units + 16
section
variable {A : AD} {X : Cx} {W : WX} {pins : List (Addr × Obj)} {σ : L2.St} {H : Hp} {s : Shared}
theorem SubB.self : SubB X X.A := ⟨rfl, rfl, rfl, Nat.le_add_right _ _, Nat.le_add_right _ _⟩
theorem SubB.in1 : SubB X X.A.in1 := ⟨rfl, rfl, rfl, Nat.le_add_right _ _, by show X.A.units + 1 ≤ X.A.units + 16; omega⟩
theorem SubB.room {B : Around} {l : Nat} (b : SubB X B) (r : Room (l + 1) X.A) : Room l B :=
  ⟨b.hd.trans r.hd, by have := r.dp; have := b.dp; omega, by have := r.un; have := b.un; omega⟩
def CvB (A : AD) (X : Cx) (u : Value) (n : Nat) (g : List MV → Sto → R MV) : Prop :=
  ∀ (B : Around) (pins : List (Addr × Obj)) (σ : L2.St) (H : Hp) (s : Shared) (Q : VK) (m : List Addr) (st : Sto) (xs : List MV) (vs : List V) (us : List Value), SubB X B → Inv X pins σ H s → Rel (gc A X) m st H → RVs (gc A X) m H xs vs → Vals vs us →
    xs.length = n → Run (gc A X) W0 σ m H (g xs st) (kV (gc A X) Q) → wpAny (model X.prog X.w) B (call u us) (EP X pins σ Q) X.xe s
theorem cvb_pos {sem : List MV → Sto → R MV} {l : Nat} {f : Addr} {fd : FuncData} {ps : List Str} (F : FnG X.prog X.w X.K X.mg X.base l f fd ps (spM (gc A X) sem ps.length)) (hr : Room (l + 1) X.A) (hg : X.A.guards = some []) (hb : Binds X.K fd ps []) :
    CvB A X (.ref f) ps.length sem := by
  intro B pins σ H s Q m st xs vs us sB I r h1 q1 l1 k
  have lu : (us ++ []).length = ps.length := by rw [List.append_nil, ← q1.length, ← h1.length]; exact l1
  have b := hb s us I.kIn lu
  rw [List.append_nil] at b
  have e0 : Env0 X.prog X.w X.K X.mg X.base B X.stack s H := by
    have e := I.env0
    exact ⟨by rw [sB.fr]; exact e.frames, e.mod, e.bs, e.bsz, e.funs, e.frf, e.hok, e.bare⟩
  have hW : Run (gc A X) (fun cls d _ H' => (fun _ _ _ => False : XK) cls d H') [] m H (sem xs st) (kV (gc A X) Q) := k.wish fun _ _ _ z => z
  refine wpAny_call (codeAny_mono (F.run B X.stack s H ⟨us, []⟩ us vs Q (fun _ _ _ => False) (sB.room hr) (sB.gd.trans hg) e0 b q1 ⟨by rw [← h1.length]; exact l1, m, st, _, r, h1, hW⟩) fun res s' hq => ?_)
  match res, hq with
  | .error e, hq =>
    obtain ⟨a, B', H', cls, d, _, _, _, _, _, _, _, z⟩ := hq
    exact z.elim
  | .ok (.ret u), hq => exact I.after hq
  | .ok .next, hq => exact hq.elim
  | .ok .brk, hq => exact hq.elim
  | .ok .cont, hq => exact hq.elim
abbrev Tb := List (Nat × (List MV → Sto → R MV))
def SpOk (A : AD) (X : Cx) (name : Str) (n : Nat) (t : Tb) : Prop :=
  ∀ k g, t.lookup k = some g → ∀ C, A.ca k = some C → ∃ f, PySem.W.findIn X.K (.ref C) name = some (some (.ref f)) ∧ PySem.W.isFn X.K (.ref f) = true ∧ CvB A X (.ref f) n g
def ownG (t : Tb) (x : MV) (st : Sto) : Option (List MV → Sto → R MV) := match x with
  | .ref i => (match st[i]? with | some (.ins k _) => t.lookup k | _ => none)
  | _ => none
def isIns (x : MV) (st : Sto) : Bool := match x with
  | .ref i => (match st[i]? with | some (.ins _ _) => true | _ => false)
  | _ => false
theorem ownG_of {m : List Addr} {st : Sto} {t : Tb} {x : MV} {u : V} {g : List MV → Sto → R MV} (r : Rel (gc A X) m st H) (h : RV (gc A X) m H x u) (e : ownG t x st = some g) : ∃ a k C, u = .ref a ∧ t.lookup k = some g ∧ A.ca k = some C ∧ ∃ dx fs, H a = some (.ins C dx fs) := by
  unfold ownG at e
  split at e
  · cases h with
    | @ref i a hi =>
    split at e
    · rename_i kk fs hs
      obtain ⟨C, dx, gs, h0, h1, h2⟩ := r.ins hs hi
      exact ⟨a, kk, C, rfl, e, h0, dx, gs, h1⟩
    · cases e
  · cases e
def bndP {α β : Type} (r : R α) (f : α → Option β) (g : β → Sto → R MV) : R MV := bndN r fun v st1 => match f v with | some y => g y st1 | none => none
def asLen : MV → Option Int
  | .int n => if 0 ≤ n ∧ n < 2 ^ 63 then some n else none
  | _ => none
def lenI (t : Tb) (xs : List MV) (st : Sto) : R MV := match xs with
  | [x] => (match ownG t x st with
    | some g => bndP (g [x] st) asLen fun n st1 => ret (.int n) st1
    | none => lenM xs st)
  | _ => none
def rOwn (A : AD) (X : Cx) (t : Tb) (K : MV → Hp → Prop) (x : MV) (rest : List MV) (u : V) (us : List V) (H : Hp) : Prop :=
  ∃ m st a k C g, u = .ref a ∧ Rel (gc A X) m st H ∧ RV (gc A X) m H x u ∧ RVs (gc A X) m H rest us ∧ t.lookup k = some g ∧ A.ca k = some C ∧ (∃ dx fs, H a = some (.ins C dx fs)) ∧ ∀ σ', Run (gc A X) W0 σ' m H (g (x :: rest) st) (fun v _ _ H1 => K v H1)
theorem own_call {name : Str} {n : Nat} {t : Tb} {K : MV → Hp → Prop} {x : MV} {rest : List MV} {u : V} {us : List V} {v : Value} {ws : List Value} {B : Around} {Q : Value → Shared → Prop} (T : SpOk A X name (n + 1) t) (I : Inv X pins σ H s) (sB : SubB X B) (hn : rest.length = n)
    (rv : RelV u v) (rs : Vals us ws) (h : rOwn A X t K x rest u us H) (hK : ∀ y w H' s' u', Inv X pins σ H' s' → RelV w u' → (∃ m', RV (gc A X) m' H' y w) → K y H' → Q u' s') :
    ∃ a C f, v = .ref a ∧ PySem.W.findIn X.K (.ref C) name = some (some (.ref f)) ∧ PySem.W.isFn X.K (.ref f) = true ∧ (∃ dx fs, H a = some (.ins C dx fs)) ∧ (∃ k g, t.lookup k = some g ∧ A.ca k = some C) ∧ wpAny (model X.prog X.w) B (call (.ref f) (.ref a :: ws)) Q X.xe s := by
  obtain ⟨m, st, a, k, C, g, rfl, r, hx, hr, h1, h2, h3, k0⟩ := h
  obtain ⟨f, f1, f2, cv⟩ := T k g h1 C h2
  obtain rfl : v = Value.ref a := rv
  refine ⟨a, C, f, rfl, f1, f2, h3, ⟨k, g, h1, h2⟩, ?_⟩
  refine wpAny_mono (cv B pins σ H s (fun w H' => ∃ y, (∃ m', RV (gc A X) m' H' y w) ∧ K y H') m st (x :: rest) (.ref a :: us) (.ref a :: ws) sB I r (.cons hx hr) (.cons rfl rs) (by rw [List.length_cons, hn]) ?_) (fun u' s' hq => ?_) (fun _ _ z => z)
  · exact (k0 σ).imp fun y st1 m1 H1 r1 e1 q w hw => ⟨y, ⟨m1, hw⟩, q⟩
  · obtain ⟨w, H', I', rw', y, hy, q⟩ := hq
    exact hK y w H' s' u' I' rw' hy q
theorem rv_int {c : GC} {m : List Addr} {n : Int} {w : V} {u : Value} (h : RV c m H (.int n) w) (r : RelV w u) : ∃ t, u = .int n t := by cases h; exact r
theorem rv_str {c : GC} {m : List Addr} {n : Str} {w : V} {u : Value} (h : RV c m H (.str n) w) (r : RelV w u) : ∃ t, u = .str n t := by cases h; exact r
theorem rv_bl {c : GC} {m : List Addr} {n : Bool} {w : V} {u : Value} (h : RV c m H (.bl n) w) (r : RelV w u) : u = .bool n := by cases h; exact r
theorem own_of {t : Tb} {m : List Addr} {st : Sto} {x : MV} {rest : List MV} {u : V} {us : List V} {g : List MV → Sto → R MV} {β : Type} {f : MV → Option β} {w : β → MV} {wV : β → V} {Q : VK} (hw : ∀ y m H, RV (gc A X) m H (w y) (wV y)) (r : Rel (gc A X) m st H) (hx : RV (gc A X) m H x u) (hr : RVs (gc A X) m H rest us) (e : ownG t x st = some g)
    (h : Run (gc A X) W σ m H (bndP (g (x :: rest) st) f fun y st1 => ret (w y) st1) (kV (gc A X) Q)) : rOwn A X t (fun v H1 => ∃ y, f v = some y ∧ Q (wV y) H1) x rest u us H := by
  obtain ⟨a, k, C, hu, h1, h2, h3⟩ := ownG_of r hx e
  refine ⟨m, st, a, k, C, g, hu, r, hx, hr, h1, h2, h3, fun σ' => (Run.bndN (σ' := σ') (m := m) (H := H) h).imp fun v st1 m1 H1 r1 e1 q => ?_⟩
  cases z : f v with
  | none => rw [z] at q; exact q.elim
  | some y =>
    rw [z] at q
    exact ⟨y, z, Run.ok q e1 r1 _ (hw y _ _)⟩
theorem asLen_of {v : MV} {n : Int} (h : asLen v = some n) : v = .int n ∧ 0 ≤ n ∧ n < 2 ^ 63 := by
  unfold asLen at h
  split at h
  · split at h
    · rename_i z
      cases h
      exact ⟨rfl, z⟩
    · cases h
  · cases h
theorem cl_lenI {t : Tb} (T : SpOk A X "__len__" 1 t) : ClM A X W (.builtin "len") (lenI t) := by
  obtain ⟨r0, c0, q0⟩ := cl_len (A := A) (X := X) (W := W)
  refine ⟨fun us H Q => r0 us H Q ∨ ∃ x u, us = [u] ∧ rOwn A X t (fun v H1 => ∃ y, asLen v = some y ∧ Q (.int y) H1) x [] u [] H, ?_, fun m st σ H xs us Q r h k => ?_⟩
  · intro pins s σ H xs us Q I r h
    rcases h with h | ⟨x, u, rfl, h⟩
    · exact c0 pins s σ H xs us Q I r h
    · obtain ⟨v, rfl, r1⟩ := vals1 r
      have key := fun Q' hK => own_call (name := "__len__") (Q := Q') T I SubB.in1 rfl r1 .nil h hK
      obtain ⟨a, C, f, rfl, f1, f2, ⟨dx, fs, h3⟩, _, hcall⟩ := key (PySem.W.LenBack (EP X pins σ Q)) fun y w H' s' u' I' rw' ⟨m', hy⟩ ⟨n, e, q⟩ => by
        obtain ⟨rfl, n0, n1⟩ := asLen_of e
        obtain ⟨tk, rfl⟩ := rv_int hy rw'
        exact ⟨⟨n0, n1⟩, .int n, H', I'.tok _, ⟨_, rfl⟩, q⟩
      obtain ⟨mA, O, _⟩ := ins_get I.hok h3
      obtain ⟨od, J, _⟩ := O.look
      obtain ⟨mF, hF⟩ := I.fr
      exact PySem.W.len_K hF I.ok.mod.kin J f1 f2 hcall
  · unfold lenI at k
    split at k
    · rename_i x
      cases h with
      | cons h h' =>
      cases h'
      split at k
      · rename_i g e
        exact .inr ⟨x, _, rfl, own_of (wV := fun y => V.int y) (fun y m H => .int y) r h .nil e k⟩
      · exact .inl (q0 m st σ H _ _ Q r (.cons h .nil) k)
    · exact k.elim
end
end CS
namespace CS
open PySem PySem.Spec PyProof.Rows L2
section
variable {A : AD} {X : Cx} {W : WX} {pins : List (Addr × Obj)} {σ : L2.St} {H : Hp} {s : Shared}
def asStr : MV → Option Str
  | .str x => some x
  | _ => none
theorem asStr_of {v : MV} {n : Str} (h : asStr v = some n) : v = .str n := by
  unfold asStr at h
  split at h
  · cases h; rfl
  · cases h
def shownD (d : PyData) : Option Str := if d.showable && !d.hasDict && decide (d.depth ≤ 60) && decide (d.shown.length ≤ sizeLine) then some d.shown else none
def reprD (x : MV) (st : Sto) : Option Str := match x with
  | .int i => if i.natAbs.log2 < 1920 then some (toString i) else none
  | .str z => if (reprText z).length ≤ sizeLine then some (reprText z) else none
  | .non => some "None"
  | .bl b => some (if b then "True" else "False")
  | x => (match dataM st 60 x with | some d => shownD d | none => none)
def reprI (t : Tb) (xs : List MV) (st : Sto) : R MV := match xs with
  | [x] => (match ownG t x st with
    | some g => bndP (g [x] st) asStr fun n st1 => ret (.str n) st1
    | none => (match reprD x st with | some z => ret (.str z) st | none => none))
  | _ => none
def rRepr (K : PySem.W.Frag) (us : List V) (H : Hp) (Q : VK) : Prop :=
  (∃ i, us = [.int i] ∧ i.natAbs.log2 < 1920 ∧ Q (.str (toString i)) H) ∨ (∃ z, us = [.str z] ∧ (reprText z).length ≤ sizeLine ∧ Q (.str (reprText z)) H) ∨ (us = [.non] ∧ Q (.str "None") H) ∨ (∃ b, us = [.bl b] ∧ Q (.str (if b then "True" else "False")) H) ∨
    ∃ a d, us = [.ref a] ∧ Dp K H (.ref a) d ∧ d.showable = true ∧ d.hasDict = false ∧ d.depth ≤ 60 ∧ d.shown.length ≤ sizeLine ∧ Q (.str d.shown) H
theorem call_reprD (hg : X.A.guards = some []) (hu : X.A.units + 64 < cLine) : CallR X (.builtin "repr") (rRepr X.K) := by
  intro pins s σ H xs us Q I r h
  rcases h with ⟨i, rfl, h1, q⟩ | ⟨z, rfl, h1, q⟩ | ⟨rfl, q⟩ | ⟨b, rfl, q⟩ | ⟨a, d, rfl, h1, h2, h3, h4, h5, q⟩
  · obtain ⟨u, rfl, t, rfl⟩ := vals1 r
    exact PySem.P.repr_of_int h1 ⟨.str _, H, I.tok _, ⟨_, rfl⟩, q⟩
  · obtain ⟨u, rfl, t, rfl⟩ := vals1 r
    exact PySem.P.repr_of_str ⟨.str _, H, I.tok _, ⟨_, rfl⟩, q⟩ h1
  · obtain ⟨u, rfl, r1⟩ := vals1 r
    cases r1
    exact PySem.P.repr_of_none ⟨.str _, H, I.tok _, ⟨_, rfl⟩, q⟩
  · obtain ⟨u, rfl, r1⟩ := vals1 r
    cases r1
    refine PySem.P.repr_of_bool ⟨.str (if b then "True" else "False"), H, I.tok _, ⟨s.toks, ?_⟩, q⟩
    cases b <;> rfl
  · obtain ⟨u, rfl, r1⟩ := vals1 r
    cases r1
    obtain ⟨as, rd⟩ := Dp.reads I d _ _ h1 rfl
    exact PySem.repr_of_reads' rd h2 (fun z => by rw [h3] at z; cases z) hg (by omega) (fun _ _ e => e) (fun h' u tk kp => ⟨.str d.shown, H, I.kept kp, ⟨u, rfl⟩, q⟩) h5
theorem reprD_ok {m : List Addr} {st : Sto} {x : MV} {u : V} {z : Str} {Q : VK} (r : Rel (gc A X) m st H) (h : RV (gc A X) m H x u) (e : reprD x st = some z) (q : Q (.str z) H) : rRepr X.K [u] H Q := by
  have data : ∀ d a, RV (gc A X) m H x (.ref a) → dataM st 60 x = some d → shownD d = some z → rRepr X.K [.ref a] H Q := fun d a h e1 e2 => by
    unfold shownD at e2
    split at e2
    · rename_i hc
      simp only [Bool.and_eq_true, Bool.not_eq_true', decide_eq_true_eq] at hc
      obtain ⟨⟨⟨c1, c2⟩, c3⟩, c4⟩ := hc
      cases e2
      exact .inr (.inr (.inr (.inr ⟨a, d, rfl, (dp_of r 60).1 _ _ _ h e1, c1, c2, c3, c4, q⟩)))
    · cases e2
  have h0 := h
  cases h with
  | non => cases e; exact .inr (.inr (.inl ⟨rfl, q⟩))
  | bl b => cases e; exact .inr (.inr (.inr (.inl ⟨b, rfl, q⟩)))
  | int i =>
    unfold reprD at e
    simp only at e
    split at e
    · rename_i hl; cases e; exact .inl ⟨i, rfl, hl, q⟩
    · cases e
  | str y =>
    unfold reprD at e
    simp only at e
    split at e
    · rename_i hl; cases e; exact .inr (.inl ⟨y, rfl, hl, q⟩)
    · cases e
  | @tup a xs vs hs hv =>
    unfold reprD at e
    simp only at e
    split at e
    · rename_i d ed; exact data d a h0 ed e
    · cases e
  | @ref i a hi =>
    unfold reprD at e
    simp only at e
    split at e
    · rename_i d ed; exact data d a h0 ed e
    · cases e
  | fn => simp only [reprD, dataM] at e; cases e
  | cl => simp only [reprD, dataM] at e; cases e
  | ty => simp only [reprD, dataM] at e; cases e
theorem cl_reprI {t : Tb} (T : SpOk A X "__repr__" 1 t) (hg : X.A.guards = some []) (hu : X.A.units + 64 < cLine) : ClM A X W (.builtin "repr") (reprI t) := by
  refine ⟨fun us H Q => rRepr X.K us H Q ∨ ∃ x u, us = [u] ∧ rOwn A X t (fun v H1 => ∃ y, asStr v = some y ∧ Q (.str y) H1) x [] u [] H, ?_, fun m st σ H xs us Q r h k => ?_⟩
  · intro pins s σ H xs us Q I r h
    rcases h with h | ⟨x, u, rfl, h⟩
    · exact call_reprD hg hu pins s σ H xs us Q I r h
    · obtain ⟨v, rfl, r1⟩ := vals1 r
      have key := fun Q' hK => own_call (name := "__repr__") (Q := Q') T I SubB.in1 rfl r1 .nil h hK
      obtain ⟨a, C, f, rfl, f1, f2, ⟨dx, fs, h3⟩, _, hcall⟩ := key (PySem.W.StrBack (EP X pins σ Q)) fun y w H' s' u' I' rw' ⟨m', hy⟩ ⟨n, e, q⟩ => by
        obtain rfl := asStr_of e
        obtain ⟨tk, rfl⟩ := rv_str hy rw'
        exact ⟨.str n, H', I', ⟨_, rfl⟩, q⟩
      obtain ⟨mA, O, _⟩ := ins_get I.hok h3
      obtain ⟨od, J, _⟩ := O.look
      obtain ⟨mF, hF⟩ := I.fr
      exact PySem.W.repr_K (by show X.A.units + 1 < cLine; omega) hF I.ok.mod.kin J f1 f2 hcall
  · unfold reprI at k
    split at k
    · rename_i x
      cases h with
      | cons h h' =>
      cases h'
      split at k
      · rename_i g e
        exact .inr ⟨x, _, rfl, own_of (wV := fun y => V.str y) (fun y m H => .str y) r h .nil e k⟩
      · split at k
        · rename_i z e
          exact .inl (reprD_ok r h e (Run.ok k .refl r _ (.str z)))
        · exact k.elim
    · exact k.elim
inductive TyN where | b (n : String) | o (k : Nat)
  deriving DecidableEq
def tyM (x : MV) (st : Sto) : Option TyN := match x with
  | .non => some (.b "NoneType")
  | .bl _ => some (.b "bool")
  | .int _ => some (.b "int")
  | .str _ => some (.b "str")
  | .tup _ => some (.b "tuple")
  | .ref i => (match st[i]? with
    | some (.lst _) => some (.b "list")
    | some (.frz _) => some (.b "list")
    | some (.ins k _) => some (.o k)
    | none => none)
  | _ => none
structure ClsI (K : PySem.W.Frag) (C : Addr) : Prop where
  cl : Cls K C
  ha : PySem.W.findIn K (.ref C) "__class__" = some (some (.builtin "object.__class__"))
  hn : PySem.W.specialIn K (.builtin "object.__class__") "__get__" = some (some (.builtin "getset_descriptor.__get__"))
  htk : PySem.W.takesIn K (.builtin "object.__class__") = some true
  hm : PySem.W.mroIn K C (.type "object") = some true
def TyV (A : AD) : TyN → Value → Prop
  | .b n, t => t = .type n
  | .o k, t => ∃ C, A.ca k = some C ∧ t = .ref C
def InsOk (A : AD) (K : PySem.W.Frag) (ks : List Nat) : Prop := ∀ k ∈ ks, ∀ C, A.ca k = some C → ClsI K C
theorem sqt_tyx {K : PySem.W.Frag} {a : Addr} {vs : List V} (h : SqT K H a vs) : TyX K H (.ref a) (.type "tuple") := by
  rcases h with (h | ⟨o, h⟩) | ⟨o, its, n, h, c, _⟩
  · exact .base (.tup h)
  · exact .fTuple h
  · exact .kTuple h c
theorem tyM_ok {m : List Addr} {st : Sto} {x : MV} {u : V} {ty : TyN} (r : Rel (gc A X) m st H) (h : RV (gc A X) m H x u) (e : tyM x st = some ty) (ho : ∀ k, ty = .o k → ∀ C, A.ca k = some C → ClsI X.K C) : ∃ t, TyX X.K H u t ∧ TyV A ty t := by
  cases h with
  | non => cases e; exact ⟨_, .base .non, rfl⟩
  | bl b => cases e; exact ⟨_, .base (.bl b), rfl⟩
  | int i => cases e; exact ⟨_, .base (.int i), rfl⟩
  | str y => cases e; exact ⟨_, .base (.str y), rfl⟩
  | @tup a xs vs hs hv => cases e; exact ⟨_, sqt_tyx hs, rfl⟩
  | @ref i a hi =>
    unfold tyM at e
    simp only at e
    split at e
    · rename_i xs hs
      cases e
      obtain ⟨vs, h1, _⟩ := r.lst hs hi
      exact ⟨_, .base (.lst h1), rfl⟩
    · rename_i xs hs
      cases e
      obtain ⟨o, vs, h1, _⟩ := r.frz hs hi
      exact ⟨_, .base (.frz h1), rfl⟩
    · rename_i k fs hs
      cases e
      obtain ⟨C, dx, gs, h0, h1, _⟩ := r.ins hs hi
      have c := ho k rfl C h0
      exact ⟨_, .base (.ins h1 c.cl c.ha c.hn c.htk c.hm), C, h0, rfl⟩
    · cases e
  | fn => cases e
  | cl => cases e
  | ty => cases e
def bNames : List String := ["NoneType", "bool", "int", "str", "tuple", "list"]
def okY (os : List Nat) (y : MV) (st : Sto) : Bool := match tyM y st with
  | some (.b n) => bNames.contains n
  | some (.o k) => os.contains k
  | none => false
def asBl : MV → Option Bool
  | .bl b => some b
  | _ => none
theorem asBl_of {v : MV} {n : Bool} (h : asBl v = some n) : v = .bl n := by
  unfold asBl at h
  split at h
  · cases h; rfl
  · cases h
def eqI (t : Tb) (os : List Nat) (x y : MV) (st : Sto) : R MV := match ownG t x st with
  | some g => if okY os y st then bndP (g [x, y] st) asBl fun b st1 => ret (.bl b) st1 else none
  | none => eqM x y st
def neI (t : Tb) (os : List Nat) (x y : MV) (st : Sto) : R MV := match ownG t x st with
  | some g => if okY os y st then bndP (g [x, y] st) asBl fun b st1 => ret (.bl (!b)) st1 else none
  | none => neM x y st
def NfOk (A : AD) (K : PySem.W.Frag) (t : Tb) (os : List Nat) : Prop := InsOk A K os ∧ ∀ k g, t.lookup k = some g → ∀ C, A.ca k = some C → (∀ n ∈ bNames, PySem.W.notFirst K C (.type n) = true) ∧ ∀ k2 ∈ os, ∀ D, A.ca k2 = some D → PySem.W.notFirst K C (.ref D) = true
def Rgt (A : AD) (K : PySem.W.Frag) (os : List Nat) (H : Hp) (v : V) : Prop := ∃ ty t, TyX K H v t ∧ TyV A ty t ∧ (match ty with | .b n => n ∈ bNames | .o k => k ∈ os)
theorem rgt_of {m : List Addr} {st : Sto} {y : MV} {v : V} {os : List Nat} (r : Rel (gc A X) m st H) (h : RV (gc A X) m H y v) (e : okY os y st = true) (ho : InsOk A X.K os) : Rgt A X.K os H v := by
  unfold okY at e
  split at e
  · rename_i n q
    obtain ⟨t, h1, h2⟩ := tyM_ok r h q fun k z => by cases z
    exact ⟨_, t, h1, h2, by simpa using e⟩
  · rename_i k q
    have hk : k ∈ os := by simpa using e
    obtain ⟨t, h1, h2⟩ := tyM_ok r h q fun k' z => by cases z; exact ho k hk
    exact ⟨_, t, h1, h2, hk⟩
  · cases e
theorem op_eqI {t : Tb} {os : List Nat} (T : SpOk A X "__eq__" 2 t) (N : NfOk A X.K t os) (hu : X.A.units + 64 < cLine) : OpM A X W (compareOp .Eq) (eqI t os) := by
  obtain ⟨r0, c0, q0⟩ := op_eqM (A := A) (X := X) (W := W) hu
  refine ⟨fun u v H Q => r0 u v H Q ∨ ∃ x y, Rgt A X.K os H v ∧ rOwn A X t (fun w H1 => ∃ b, asBl w = some b ∧ Q (.bl b) H1) x [y] u [v] H, ?_, fun m st σ H x y u v Q r hx hy k => ?_⟩
  · intro pins s σ H x y v u Q I rx ry h
    rcases h with h | ⟨mx, my, ⟨ty, tv, h1, h2, h3⟩, h⟩
    · exact c0 pins s σ H x y v u Q I rx ry h
    · have key := fun Q' hK => own_call (name := "__eq__") (Q := Q') T I SubB.self rfl rx (.cons ry .nil) h hK
      obtain ⟨a, C, f, rfl, f1, f2, ⟨dx, fs, h4⟩, ⟨k, g, g1, g2⟩, hcall⟩ := key (PySem.W.CmpBack (EP X pins σ Q)) fun w wv H' s' u' I' rw' ⟨m', hy⟩ ⟨b, e, q⟩ => by
        obtain rfl := asBl_of e
        obtain rfl := rv_bl hy rw'
        exact ⟨.bl b, H', I', rfl, q⟩
      obtain ⟨P, Z, p, _⟩ := kit_of I ry h1
      obtain ⟨n1, n2⟩ := N.2 k g g1 C g2
      have nf : PySem.W.notFirst X.K C tv = true := by
        cases ty with
        | b n => rw [show tv = .type n from h2]; exact n1 n h3
        | o k2 => obtain ⟨D, d1, d2⟩ := h2; rw [d2]; exact n2 k2 h3 D d1
      obtain ⟨mA, O, _⟩ := ins_get I.hok h4
      obtain ⟨od, J, _⟩ := O.look
      obtain ⟨mF, hF⟩ := I.fr
      exact PySem.W.cmp_K (op := .Eq) (by omega) hF I.ok.mod.kin J (Z.ty _ _ I.kIn p) nf f1 f2 hcall
  · unfold eqI at k
    split at k
    · rename_i g e
      split at k
      · rename_i hy'
        exact .inr ⟨x, y, rgt_of r hy hy' N.1, own_of (wV := fun y => V.bl y) (fun y m H => .bl y) r hx (.cons hy .nil) e k⟩
      · exact k.elim
    · exact .inl (q0 m st σ H x y u v Q r hx hy k)
end
end CS
namespace CS
open PySem PySem.Spec PyProof.Rows L2
namespace Ow
variable {prog : Program} {w : World} {B : Around} {E : Value → Shared → Prop} {s : Shared} {K : PySem.W.Frag} {a C f : Addr} {ox : Obj} {od : Option Obj}
theorem ne_body {y : Value} {Q : Fin → Shared → Prop} (hK : K.In s.heap) (J : PySem.W.InstAt s.heap a ox C od) (h1 : PySem.W.findIn K (.ref C) "__eq__" = some (some (.ref f))) (h2 : PySem.W.isFn K (.ref f) = true) (hu : B.units < cLine)
    (hc : wpAny (model prog w) B (call (.ref f) [.ref a, y]) (fun v s' => ∃ k, v = .bool k ∧ Q (.done (.ret (.bool (!k)))) s') E s) :
    wpAny (model prog w) B (Builtin.«object.__ne__» ⟨[.ref a, y], []⟩) Q E s := by
  unfold Builtin.«object.__ne__»
  repeat (first
    | with_reducible refine wpAny_cRoomFor hu ?_
    | (refine wpAny_bind (m := callSpecialIfBound? (.ref a) (Str.ofString "__eq__") [y]) (PySem.W.ifBound_K hK J h1 h2 (wpAny_mono hc (fun r s' hr => by
        obtain ⟨k, rfl, hq⟩ := hr
        repeat (first | exact hq | exact wpAny_pure hq | (refine wpAny_bind (m := truthy (.bool _)) (wpAny_truthy_bool ?_)) | wp_step)) fun _ _ z => z)))
    | wp_step)
theorem ne_try {y : Value} {Q : Option Value → Shared → Prop} (hK : K.In s.heap) (J : PySem.W.InstAt s.heap a ox C od) (h1 : PySem.W.findIn K (.ref C) "__eq__" = some (some (.ref f))) (h2 : PySem.W.isFn K (.ref f) = true)
    (h3 : PySem.W.findIn K (.ref C) "__ne__" = some (some (.builtin "object.__ne__"))) (h4 : PySem.W.subIn K (.ref C) (.type "object") = some true) (hu : B.units + 1 < cLine)
    (hc : wpAny (model prog w) B.in1 (call (.ref f) [.ref a, y]) (fun v s' => ∃ k, v = .bool k ∧ Q (some (.bool (!k))) s') E s) :
    wpAny (model prog w) B (tryCompare (.ref a) "__ne__" y) Q E s := by
  have hb : bindSpecial (.builtin "object.__ne__") (.ref a) = pure (.builtin "object.__ne__", [.ref a]) := PySem.F.cmp_object.ne.bind _
  have hL : PySem.W.Looks (model prog w) s.heap (isInstance (.ref a) (.type "object")) true := J.type.andThen (PySem.W.looks_subIn hK h4)
  have one : wpAny (model prog w) B (call (.builtin "object.__ne__") [.ref a, y]) (fun v s' => ∃ k, v = .bool (!k) ∧ Q (some (.bool (!k))) s') E s := by
    refine wpAny_call (codeAny_call_builtin PySem.F.cmp_object.ne.plain PySem.F.cmpEntry_ne (PySem.W.check_slot PySem.F.cmpKind_ne PySem.F.cmpSplit_ne hL (PySem.F.cmpArgs_ne _ _)
      (ne_body (B := B.in1) hK J h1 h2 hu (wpAny_mono hc (fun v s' hv => ?_) fun _ _ z => z))))
    obtain ⟨k, rfl, q⟩ := hv
    exact ⟨k, rfl, k, rfl, q⟩
  have two : wpAny (model prog w) B (callSpecialIfBound? (.ref a) "__ne__" [y]) (fun v s' => ∃ k, v = some (.bool (!k)) ∧ Q (some (.bool (!k))) s') E s := by
    simp only [callSpecialIfBound?, bindSpecialIfBound?]
    refine wpAny_holding (wpAny_bind (wpAny_bind (wpAny_bind (J.type.here ((PySem.W.looks_findIn hK h3).here ?_)))))
    refine wpAny_bind (wpAny_askSetting (wpAny_ite ?_))
    have fin : wpAny (model prog w) B (call (.builtin "object.__ne__") ([.ref a] ++ [y]) >>= fun v => pure (some v)) (fun v s' => ∃ k, v = some (.bool (!k)) ∧ Q (some (.bool (!k))) s') E s :=
      wpAny_bind (wpAny_mono one (fun v s' ⟨k, e, q⟩ => wpAny_pure ⟨k, by rw [e], q⟩) fun _ _ z => z)
    split
    · refine wpAny_bind ?_
      rw [hb]
      exact wpAny_pure (wpAny_pure fin)
    · refine wpAny_tryCatch (wpAny_bind ?_)
      rw [hb]
      exact wpAny_pure (wpAny_pure fin)
  unfold tryCompare
  refine wpAny_bind (wpAny_mono two (fun v s' hv => ?_) fun _ _ z => z)
  obtain ⟨k, rfl, q⟩ := hv
  exact wpAny_pure q
theorem ne_rich {y tb : Value} {Q : Value → Shared → Prop} (hK : K.In s.heap) (J : PySem.W.InstAt s.heap a ox C od) (hb : PySem.W.Looks (model prog w) s.heap (typeOf y) tb) (hn : PySem.W.notFirst K C tb = true) (h1 : PySem.W.findIn K (.ref C) "__eq__" = some (some (.ref f)))
    (h2 : PySem.W.isFn K (.ref f) = true) (h3 : PySem.W.findIn K (.ref C) "__ne__" = some (some (.builtin "object.__ne__"))) (h4 : PySem.W.subIn K (.ref C) (.type "object") = some true) (hu : B.units + 1 < cLine)
    (hc : wpAny (model prog w) B.in1 (call (.ref f) [.ref a, y]) (fun v s' => ∃ k, v = .bool k ∧ Q (.bool (!k)) s') E s) :
    wpAny (model prog w) B (richCompare .NotEq (.ref a) y) Q E s := by
  have one : wpAny (model prog w) B (tryCompare (.ref a) "__ne__" y) (fun r s' => ∃ v, r = some v ∧ Q v s') E s :=
    ne_try hK J h1 h2 h3 h4 hu (wpAny_mono hc (fun v s' ⟨k, e, q⟩ => ⟨k, e, _, rfl, q⟩) fun _ _ z => z)
  unfold richCompare
  simp only [oneThing_ref]
  refine wpAny_holding (wpAny_bind (wpAny_cRoomFor (by omega) ?_))
  rw [PySem.cmpInfo_NotEq]
  dsimp only
  refine wpAny_bind (J.type.here (wpAny_bind (hb.here ?_)))
  split
  · rename_i q
    have e : PySem.W.subIn K tb (.ref C) = some false := by
      rcases Bool.or_eq_true_iff.mp hn with e | e
      · rw [beq_iff_eq.mp e] at q; simp at q
      · exact beq_iff_eq.mp e
    refine wpAny_bind ((PySem.W.looks_subIn hK e).here ?_)
    simp only [Bool.false_eq_true, if_false]
    refine wpAny_bind (wpAny_mono one (fun r s' z => ?_) fun _ _ e => e)
    obtain ⟨v, rfl, hq⟩ := z
    exact wpAny_pure hq
  · refine wpAny_bind (wpAny_pure ?_)
    simp only [Bool.false_eq_true, if_false]
    refine wpAny_bind (wpAny_mono one (fun r s' z => ?_) fun _ _ e => e)
    obtain ⟨v, rfl, hq⟩ := z
    exact wpAny_pure hq
theorem len_body {Q : Int → Shared → Prop} (hK : K.In s.heap) (J : PySem.W.InstAt s.heap a ox C od) (h1 : PySem.W.findIn K (.ref C) "__len__" = some (some (.ref f))) (h2 : PySem.W.isFn K (.ref f) = true)
    (hc : wpAny (model prog w) B (call (.ref f) [.ref a]) (fun v s' => ∃ n t, v = .int n t ∧ 0 ≤ n ∧ n < 2 ^ 63 ∧ Q n { s' with toks := s'.toks + 1 }) E s) :
    wpAny (model prog w) B (Builtin.«len» ⟨[.ref a], []⟩) (fun fin s' => ∃ n t, fin = .done (.ret (.int n t)) ∧ Q n s') E s := by
  unfold Builtin.«len»
  refine wpAny_bind (m := oneArg "len" _) (wpAny_pure ?_)
  refine wpAny_bind (m := callSpecial? (.ref a) (Str.ofString "__len__")) (PySem.W.special_fn hK J h1 (beq_iff_eq.mp h2) (wpAny_mono hc (fun r s' hr => ?_) fun _ _ z => z))
  obtain ⟨n, t, rfl, h0, h3, q⟩ := hr
  refine wpAny_bind (wpAny_holding (wpAny_pure ?_))
  refine wpAny_bind (wpAny_letGo ?_)
  show wpAny _ _ (if n < 0 then _ else _) _ _ _
  rw [if_neg (by omega)]
  show wpAny _ _ (if n ≥ 2 ^ 63 then _ else _) _ _ _
  rw [if_neg (by omega)]
  exact wpAny_bind (wpAny_mkInt (wpAny_pure ⟨_, _, rfl, q⟩))
theorem truth_len {Q : Bool → Shared → Prop} (hK : K.In s.heap) (J : PySem.W.InstAt s.heap a ox C od) (h0 : PySem.W.findIn K (.ref C) "__bool__" = some none) (h1 : PySem.W.findIn K (.ref C) "__len__" = some (some (.ref f))) (h2 : PySem.W.isFn K (.ref f) = true)
    (hc : wpAny (model prog w) B.in1 (call (.ref f) [.ref a]) (fun v s' => ∃ n t, v = .int n t ∧ 0 ≤ n ∧ n < 2 ^ 63 ∧ Q (n != 0) { s' with toks := s'.toks + 1 }) E s) :
    wpAny (model prog w) B (truthy (.ref a)) Q E s := by
  have key : wpAny (model prog w) B (runValue (.builtin "len" ⟨[.ref a], []⟩)) (fun r s' => ∃ n t, r = .int n t ∧ Q (n != 0) s') E s := by
    refine wpAny_runValue (codeAny_builtin entry_len ?_)
    rw [Around.under_plainId plain_len _]
    exact wpAny_mono (len_body (B := B.in1) (Q := fun n s' => Q (n != 0) s') hK J h1 h2 hc) (fun fin s' h' => by obtain ⟨n, t, rfl, q⟩ := h'; exact ⟨n, t, rfl, q⟩) fun _ _ z => z
  unfold truthy
  refine wpAny_bind (m := callSpecial? (.ref a) (Str.ofString "__bool__")) (wpAny_bind (wpAny_bind (J.type.here ((PySem.W.looks_findIn hK h0).here (wpAny_pure ?_)))))
  refine wpAny_bind (wpAny_bind (J.type.here ((PySem.W.looks_findIn hK h1).here ?_)))
  refine wpAny_bind (wpAny_mono key (fun r s' h' => ?_) fun _ _ z => z)
  obtain ⟨n, t, rfl, q⟩ := h'
  exact wpAny_pure q
end Ow
section
variable {A : AD} {X : Cx} {W : WX} {pins : List (Addr × Obj)} {σ : L2.St} {H : Hp} {s : Shared}
def NeOk (A : AD) (K : PySem.W.Frag) (t : Tb) : Prop := ∀ k g, t.lookup k = some g → ∀ C, A.ca k = some C → PySem.W.findIn K (.ref C) "__ne__" = some (some (.builtin "object.__ne__")) ∧ PySem.W.subIn K (.ref C) (.type "object") = some true
theorem op_neI {t : Tb} {os : List Nat} (T : SpOk A X "__eq__" 2 t) (N : NfOk A X.K t os) (M : NeOk A X.K t) (hu : X.A.units + 64 < cLine) : OpM A X W (compareOp .NotEq) (neI t os) := by
  obtain ⟨r0, c0, q0⟩ := op_neM (A := A) (X := X) (W := W) hu
  refine ⟨fun u v H Q => r0 u v H Q ∨ ∃ x y, Rgt A X.K os H v ∧ rOwn A X t (fun w H1 => ∃ b, asBl w = some b ∧ Q (.bl (!b)) H1) x [y] u [v] H, ?_, fun m st σ H x y u v Q r hx hy k => ?_⟩
  · intro pins s σ H x y v u Q I rx ry h
    rcases h with h | ⟨mx, my, ⟨ty, tv, h1, h2, h3⟩, h⟩
    · exact c0 pins s σ H x y v u Q I rx ry h
    · have key := fun Q' hK => own_call (name := "__eq__") (Q := Q') T I SubB.in1 rfl rx (.cons ry .nil) h hK
      obtain ⟨a, C, f, rfl, f1, f2, ⟨dx, fs, h4⟩, ⟨k, g, g1, g2⟩, hcall⟩ := key (fun v s' => ∃ k, v = .bool k ∧ EP X pins σ Q (.bool (!k)) s') fun w wv H' s' u' I' rw' ⟨m', hy⟩ ⟨b, e, q⟩ => by
        obtain rfl := asBl_of e
        obtain rfl := rv_bl hy rw'
        exact ⟨b, rfl, .bl (!b), H', I', rfl, q⟩
      obtain ⟨P, Z, p, _⟩ := kit_of I ry h1
      obtain ⟨n1, n2⟩ := N.2 k g g1 C g2
      have nf : PySem.W.notFirst X.K C tv = true := by
        cases ty with
        | b n => rw [show tv = .type n from h2]; exact n1 n h3
        | o k2 => obtain ⟨D, d1, d2⟩ := h2; rw [d2]; exact n2 k2 h3 D d1
      obtain ⟨mA, O, _⟩ := ins_get I.hok h4
      obtain ⟨od, J, _⟩ := O.look
      obtain ⟨m1, m2⟩ := M k g g1 C g2
      exact Ow.ne_rich I.kIn J (Z.ty _ _ I.kIn p) nf f1 f2 m1 m2 (by omega) hcall
  · unfold neI at k
    split at k
    · rename_i g e
      split at k
      · rename_i hy'
        exact .inr ⟨x, y, rgt_of r hy hy' N.1, own_of (w := fun b => .bl (!b)) (wV := fun y => V.bl (!y)) (fun y m H => .bl _) r hx (.cons hy .nil) e k⟩
      · exact k.elim
    · exact .inl (q0 m st σ H x y u v Q r hx hy k)
abbrev Kt := List ((TyN × Nat) × Bool)
abbrev Kb := List ((Nat × String) × Bool)
def KtOk (A : AD) (K : PySem.W.Frag) (kt : Kt) (kb : Kb) : Prop :=
  (∀ e ∈ kt, ∀ C, A.ca e.1.2 = some C → ∀ t, TyV A e.1.1 t → PySem.W.kitOne K t (.ref C) = some e.2) ∧ (∀ e ∈ kb, ∀ C, A.ca e.1.1 = some C → PySem.W.kitOne K (.ref C) (.type e.1.2) = some e.2)
def isiOne (kt : Kt) (kb : Kb) (ty : TyN) (c : MV) : Option Bool := match c with
  | .ty n => (match ty with | .b m => kitB m n | .o k => kb.lookup (k, n))
  | .cl k => kt.lookup (ty, k)
  | _ => none
def isiM (kt : Kt) (kb : Kb) (xs : List MV) (st : Sto) : R MV := match xs with
  | [x, c] => (match tyM x st with | some ty => (match isiOne kt kb ty c with | some b => ret (.bl b) st | none => none) | none => none)
  | _ => none
theorem lookup_mem {α β : Type} [BEq α] [LawfulBEq α] {a : α} {b : β} : ∀ {l : List (α × β)}, l.lookup a = some b → (a, b) ∈ l
  | [], h => by cases h
  | (c, d) :: l, h => by
    rw [List.lookup_cons] at h
    split at h
    · rename_i e
      cases h
      rw [eq_of_beq e]
      exact List.mem_cons_self
    · exact List.mem_cons_of_mem _ (lookup_mem h)
theorem isiOne_ok {m : List Addr} {kt : Kt} {kb : Kb} {ty : TyN} {t : Value} {c : MV} {v : V} {b : Bool} (T : KtOk A X.K kt kb) (h : RV (gc A X) m H c v) (ht : TyV A ty t) (e : isiOne kt kb ty c = some b) : ∃ u, ClsV v u ∧ PySem.W.kitOne X.K t u = some b := by
  cases h with
  | ty n =>
    unfold isiOne at e
    simp only at e
    split at e
    · rename_i mm
      rw [show t = .type mm from ht]
      exact ⟨_, .ty n, kit_ty e⟩
    · rename_i k
      obtain ⟨C, c1, c2⟩ := ht
      rw [c2]
      exact ⟨_, .ty n, T.2 _ (lookup_mem e) C c1⟩
  | @cl i a hi => exact ⟨_, .own a, T.1 _ (lookup_mem e) a hi t ht⟩
  | _ => cases e
theorem cl_isi {kt : Kt} {kb : Kb} (T : KtOk A X.K kt kb) (hI : ∀ k C, A.ca k = some C → (∃ e ∈ kt, e.1.1 = .o k) ∨ (∃ e ∈ kb, e.1.1 = k) → ClsI X.K C) : ClM A X W (.builtin "isinstance") (isiM kt kb) := by
  refine ⟨_, call_isi, fun m st σ H xs us Q r h k => ?_⟩
  unfold isiM at k
  split at k
  · rename_i x c
    match us, h with
    | [u, v], .cons hx (.cons hc .nil) =>
    split at k
    · rename_i ty e1
      split at k
      · rename_i b e2
        obtain ⟨t, t1, t2⟩ := tyM_ok r hx e1 fun k z C hC => hI k C hC (by
          subst z
          unfold isiOne at e2
          split at e2
          · exact .inr ⟨_, lookup_mem e2, rfl⟩
          · exact .inl ⟨_, lookup_mem e2, rfl⟩
          · cases e2)
        obtain ⟨w, w1, w2⟩ := isiOne_ok T hc t2 e2
        exact ⟨u, v, t, w, b, rfl, w1, t1, w2, k.ok .refl r _ (.bl b)⟩
      · exact k.elim
    · exact k.elim
  · exact k.elim
theorem kit_own {K : PySem.W.Frag} {t : Value} {C : Addr} {cd : ClassData} {b : Bool} (h1 : PySem.W.clsIn K C = some cd) (h2 : PySem.W.typeIn K (.ref C) = some (.type "type")) (h3 : PySem.W.subIn K t (.ref C) = some b) (h4 : (t == Value.ref C) = true → b = true) : PySem.W.kitOne K t (.ref C) = some b := by
  unfold PySem.W.kitOne
  split
  · rename_i e
    rw [h4 e]
  · unfold PySem.W.kitCls
    simp only [h1, h2, Option.isSome_some, beq_self_eq_true, Bool.and_self, if_true]
    exact h3
theorem kit_blt {K : PySem.W.Frag} {C : Addr} {n : String} {b : Bool} (h1 : PySem.W.kitMeta n = true) (h3 : PySem.W.subIn K (.ref C) (.type n) = some b) : PySem.W.kitOne K (.ref C) (.type n) = some b := by
  unfold PySem.W.kitOne
  split
  · rename_i e
    have := eq_of_beq e
    cases this
  · unfold PySem.W.kitCls
    simp only [h1, if_true]
    exact h3
def eFm (f : DE) : DE := fun ρ st => bnd (f ρ st) fun x st1 => match x with
  | .str y => if y.length ≤ sizeLine then ret (.str y) st1 else none
  | .int i => if i.natAbs.log2 < 1920 then ret (.str (toString i)) st1 else none
  | _ => none
theorem pm_fmt {e : Expr} {f : DE} {pos : Pos} (h : PM A X W e f) : PM A X W (.FormattedValue e (-1) none pos) (eFm f) := by
  refine (pe_fmt h).imp fun σ H Q ⟨m, ρ, st, r, v, k⟩ => ?_
  refine tM.then r v k fun x u st1 m1 H1 r1 e1 v1 hu k1 => ?_
  cases x with
  | str y =>
    cases hu
    dsimp only at k1
    split at k1
    · rename_i hl
      exact .inl ⟨y, rfl, hl, Run.ok k1 .refl r1 _ (.str _)⟩
    · exact k1.elim
  | int i =>
    cases hu
    dsimp only at k1
    split at k1
    · rename_i hl
      exact .inr ⟨i, rfl, hl, Run.ok k1 .refl r1 _ (.str _)⟩
    · exact k1.elim
  | _ => exact k1.elim
def joinM : List DE → Str → DE
  | [], acc => fun _ st => ret (.str acc) st
  | f :: fs, acc => fun ρ st => bnd (f ρ st) fun x st1 => match x with
    | .str y => if (acc ++ y).length ≤ sizeLine then joinM fs (acc ++ y) ρ st1 else none
    | _ => none
inductive PMJ (A : AD) (X : Cx) (W : WX) : List Expr → List DE → Prop where
  | nil : PMJ A X W [] []
  | cons {e : Expr} {f : DE} {es : List Expr} {fs : List DE} (h : PM A X W e f) (r : PMJ A X W es fs) : PMJ A X W (e :: es) (f :: fs)
theorem pmj_pj : ∀ {es : List Expr} {fs : List DE}, PMJ A X W es fs → PJ X es (fs.map (tM (gc A X) W))
  | _, _, .nil => .nil
  | _, _, .cons h r => .cons h (pmj_pj r)
theorem joinM_ok {c : GC} {ρ : MEnv} {Q : VK} : ∀ (fs : List DE) (acc : Str) (m : List Addr) (st : Sto) (H : Hp), Rel c m st H → REnv c m H ρ σ → Run c W σ m H (joinM fs acc ρ st) (kV c Q) → tJs (fs.map (tM c W)) acc σ H fun out H1 => Q (.str out) H1
  | [], acc, m, st, H, r, v, k => k.ok .refl r _ (.str acc)
  | f :: fs, acc, m, st, H, r, v, k => by
    refine tM.then (g := fun x st1 => match x with
      | .str y => if (acc ++ y).length ≤ sizeLine then joinM fs (acc ++ y) ρ st1 else none
      | _ => none) r v k fun x u st1 m1 H1 r1 e1 v1 hu k1 => ?_
    cases x with
    | str y =>
      cases hu
      dsimp only at k1
      split at k1
      · rename_i hl
        exact ⟨y, rfl, hl, joinM_ok fs (acc ++ y) m1 st1 H1 r1 v1 k1⟩
      · exact k1.elim
    | _ => exact k1.elim
def eJn (fs : List DE) : DE := joinM fs Str.empty
theorem pm_join {e1 e2 : Expr} {es : List Expr} {fs : List DE} {pos : Pos} (h : PMJ A X W (e1 :: e2 :: es) fs) : PM A X W (.JoinedStr (e1 :: e2 :: es) pos) (eJn fs) :=
  (pe_joined (pmj_pj h)).imp fun σ H Q ⟨m, ρ, st, r, v, k⟩ => joinM_ok fs _ m st H r v k
theorem pm_join1 {e : Expr} {f : DE} {pos : Pos} (h : PM A X W e f) : PM A X W (.JoinedStr [e] pos) f := pe_joined1 h
end
end CS
namespace CS
open PySem PySem.Spec PyProof.Rows L2
namespace Ow
variable {prog : Program} {w : World} {B : Around} {E : Value → Shared → Prop} {s : Shared} {K : PySem.W.Frag} {a C f : Addr} {ox : Obj} {od : Option Obj}
theorem bool_call {x : Value} {Q : Value → Shared → Prop} (h : wpAny (model prog w) B.in1.in1 (Builtin.«bool.__new__» ⟨[.type "bool", x], []⟩) (fun fin s' => ∃ b, fin = .done (.ret (.bool b)) ∧ Q (.bool b) s') E s) :
    wpAny (model prog w) B (call (.type "bool") [x]) Q E s := by
  have ft := PySem.F.called_bool
  have hcn := PySem.F.newCall_bool_1 x
  obtain ⟨c, tl, hmro⟩ := ft.mro
  have hmade := ft.made
  have hsub := ft.sub
  have hct := PySem.F.typeCall_bool_1 x
  refine wpAny_call (codeAny_of_tree ?_)
  show wpAny _ _ (callAny (.type "bool") _) _ _ _
  refine wpAny_pure ⟨Code.quiet_builtin _ (by decide +kernel), codeAny_builtin PySem.F.entry_type_call ?_⟩
  rw [Around.under_plain (weight_type_call_type "bool" [x] []) (units_type_call_type "bool" [x] [])]
  have h1 := ft.notType
  have h2 := ft.canCreate
  repeat (any_goals (first
    | assumption
    | wp_step))
  refine codeAny_mono (codeAny_call_builtin (R := fun r s' => ∃ b, r = .ok (.ret (.bool b)) ∧ Q (.bool b) s' ∨ (∃ e, r = .error e ∧ E e s')) ft.plain PySem.F.entry_bool_new (wpAny_of_eq hcn (wpAny_mono h (fun fin s' hq => ?_) fun e s' he => ⟨true, .inr ⟨e, rfl, he⟩⟩))) fun r s₁ hr => ?_
  · obtain ⟨b, rfl, q⟩ := hq
    exact ⟨b, .inl ⟨rfl, q⟩⟩
  · obtain ⟨b, ⟨rfl, q⟩ | ⟨e, rfl, he⟩⟩ := hr
    · have hT : s₁.TypeIs (.bool b) "bool" := rfl
      have hli := ft.init.lookup
      have hbi := ft.init.bind (.bool b)
      repeat (any_goals (first
        | assumption
        | wp_step))
      have iN := object_init_meets (rest := [x]) ft.init.lookup ft.made PySem.F.newNe_bool prog w B.in1 (fun r s' => r = .ok (.ret .none) ∧ s' = s₁) s₁ ⟨hT, rfl, rfl⟩
      refine codeAny_mono (codeAny_call_builtin (R := fun r s' => r = .ok (.ret .none) ∧ s' = s₁) ft.init.plain PySem.F.entry_object_init (ft.init.check _ _ _ _ _ _ _ _ hT (PySem.F.args_object_init_2 (.bool b) x) iN)) fun r₂ s₂ hr₂ => ?_
      obtain ⟨rfl, rfl⟩ := hr₂
      repeat (any_goals (first
        | assumption
        | wp_step))
    · exact he
theorem bool_len {Q : Value → Shared → Prop} (hK : K.In s.heap) (J : PySem.W.InstAt s.heap a ox C od) (h0 : PySem.W.findIn K (.ref C) "__bool__" = some none) (h1 : PySem.W.findIn K (.ref C) "__len__" = some (some (.ref f))) (h2 : PySem.W.isFn K (.ref f) = true)
    (hc : wpAny (model prog w) B.in1.in1.in1 (call (.ref f) [.ref a]) (fun v s' => ∃ n t, v = .int n t ∧ 0 ≤ n ∧ n < 2 ^ 63 ∧ Q (.bool (n != 0)) { s' with toks := s'.toks + 1 }) E s) :
    wpAny (model prog w) B (call (.type "bool") [.ref a]) Q E s := by
  refine bool_call ?_
  have f1 := PySem.F.conv_sub_bool
  have tr : wpAny (model prog w) B.in1.in1 (truthy (.ref a)) (fun b s' => Q (.bool b) s') E s := truth_len (B := B.in1.in1) hK J h0 h1 h2 hc
  repeat (any_goals (first
    | assumption
    | (refine wpAny_bind (m := truthy (.ref a)) (wpAny_mono tr (fun b s' q => ?_) fun _ _ z => z))
    | (refine wpAny_mono tr (fun b s' q => ?_) fun _ _ z => z)
    | exact ⟨_, rfl, q⟩
    | wp_step))
end Ow
section
variable {A : AD} {X : Cx} {W : WX} {pins : List (Addr × Obj)} {σ : L2.St} {H : Hp} {s : Shared}
def boolI (t : Tb) (xs : List MV) (st : Sto) : R MV := match xs with
  | [x] => (match ownG t x st with
    | some g => bndP (g [x] st) asLen fun n st1 => ret (.bl (n != 0)) st1
    | none => (match x with | .bl b => ret (.bl b) st | .int i => ret (.bl (i != 0)) st | _ => none))
  | _ => none
def NbOk (A : AD) (K : PySem.W.Frag) (t : Tb) : Prop := ∀ k g, t.lookup k = some g → ∀ C, A.ca k = some C → PySem.W.findIn K (.ref C) "__bool__" = some none
theorem SubB.in3 : SubB X X.A.in1.in1.in1 := ⟨rfl, rfl, rfl, Nat.le_add_right _ _, by show X.A.units + 1 + 1 + 1 ≤ X.A.units + 16; omega⟩
theorem cl_boolI {t : Tb} (T : SpOk A X "__len__" 1 t) (N : NbOk A X.K t) : ClM A X W (.type "bool") (boolI t) := by
  refine ⟨fun us H Q => ((∃ i, us = [.int i] ∧ Q (.bl (i != 0)) H) ∨ ∃ k, us = [.bl k] ∧ Q (.bl k) H) ∨ ∃ x u, us = [u] ∧ rOwn A X t (fun v H1 => ∃ y, asLen v = some y ∧ Q (.bl (y != 0)) H1) x [] u [] H, ?_, fun m st σ H xs us Q r h k => ?_⟩
  · intro pins s σ H xs us Q I r h
    rcases h with h | ⟨x, u, rfl, h⟩
    · exact call_bool1 pins s σ H xs us Q I r h
    · obtain ⟨v, rfl, r1⟩ := vals1 r
      have key := fun Q' hK => own_call (name := "__len__") (Q := Q') T I SubB.in3 rfl r1 .nil h hK
      obtain ⟨a, C, f, rfl, f1, f2, ⟨dx, fs, h3⟩, ⟨k, g, g1, g2⟩, hcall⟩ := key (fun v s' => ∃ n t, v = .int n t ∧ 0 ≤ n ∧ n < 2 ^ 63 ∧ EP X pins σ Q (.bool (n != 0)) { s' with toks := s'.toks + 1 }) fun y w H' s' u' I' rw' ⟨m', hy⟩ ⟨n, e, q⟩ => by
        obtain ⟨rfl, n0, n1⟩ := asLen_of e
        obtain ⟨tk, rfl⟩ := rv_int hy rw'
        exact ⟨n, tk, rfl, n0, n1, .bl (n != 0), H', I'.tok _, rfl, q⟩
      obtain ⟨mA, O, _⟩ := ins_get I.hok h3
      obtain ⟨od, J, _⟩ := O.look
      exact Ow.bool_len I.kIn J (N k g g1 C g2) f1 f2 hcall
  · unfold boolI at k
    split at k
    · rename_i x
      cases h with
      | cons h h' =>
      cases h'
      split at k
      · rename_i g e
        exact .inr ⟨x, _, rfl, own_of (w := fun y => .bl (y != 0)) (wV := fun y => V.bl (y != 0)) (fun y m H => .bl _) r h .nil e k⟩
      · split at k
        · cases h; exact .inl (.inr ⟨_, rfl, k.ok .refl r _ (.bl _)⟩)
        · cases h; exact .inl (.inl ⟨_, rfl, k.ok .refl r _ (.bl _)⟩)
        · exact k.elim
    · exact k.elim
end
end CS
namespace CS
open PySem PySem.Spec PyProof.Rows L2
theorem rvs_ints {c : GC} {m : List Addr} {H : Hp} : ∀ ns : List Int, RVs c m H (ns.map .int) (ns.map V.int)
  | [] => .nil
  | n :: ns => .cons (.int n) (rvs_ints ns)
def noLists (K : PySem.W.Frag) : Bool := K.all fun p => match p.2.cls with | .type n => n != "list" | _ => true
theorem noLists_of {K : PySem.W.Frag} (h : noLists K = true) {a : Addr} {o : Obj} (e : K.lookup a = some o) : o.cls ≠ .type "list" := fun z => by
  have := List.all_eq_true.mp h (a, o) (lookup_mem e)
  rw [show (a, o).2.cls = .type "list" from z] at this
  simp at this
section
variable {l : PySem.W.OpenLaw} {q : Program} {loose : List Str} {XP : (Str → Option Value) → Heap → Prop} {YP : World → Heap → Prop} {d : DefRec} {K : Params → PySem.W.Frag} {x : Str} {k n : Nat} {sem : List MV → Sto → R MV}
theorem law_end (hn : l.most = some n) (hn2 : n ≤ sizeLine) (hdf : d.params.defaults = []) (hr : Room k callerA) (hY : ∀ (w : World) (h : Heap), YP w h → (K w.params).In h) (hNL : ∀ w : World, noLists (K w.params) = true)
    (F : ∀ (w : World) (mg : Str → Option Value) (fa : Addr) (h : Heap), (K w.params).In h → h.Ns mainGlobals mg → mg d.name = some (.ref fa) →
      ∃ (A : AD) (fd : FuncData), (∀ (s : Shared) (u : Value), BindsTo s fd ⟨[u], []⟩ [(x, u)]) ∧
        ∀ base : Heap, (K w.params).In base → base.Ns mainGlobals mg → FnG l.prog w (K w.params) mg base k fa fd [x] (spM ⟨l.prog, w, K w.params, mg, base, A.fa, A.ca⟩ sem 1))
    (hlaw : ∀ ns : List Int, ns.length ≤ n → ∃ st, sem [.ref 0] [.frz (ns.map .int)] = ret (.bl true) st) :
    PySem.W.WalkO q loose XP YP l.row.toRowW d [] (fun f vs => PySem.call f vs) := by
  refine Att.attach_call hn hdf fun w s₀ s₁ mg mb fa o pm cd doc a vs ns G Y ho hd hcd hmg hobj hints hlen hg => ?_
  have KX := hY w _ Y
  have KN := hNL w
  obtain ⟨A, fd, hb, hF⟩ := F w mg fa _ KX G.T.g hmg
  have rv := vals_ints hints
  let ob : Obj := { cls := .type "list", data := .seq vs.toArray }
  let H : Hp := fun b => if b = a then some (.frz ob (.lst (ns.map V.int))) else none
  have Ha : H a = some (.frz ob (.lst (ns.map V.int))) := if_pos rfl
  have Hn : ∀ {b : Addr}, b ≠ a → H b = none := fun hb => if_neg hb
  have hKa : (K w.params).lookup a = none := by
    cases e : (K w.params).lookup a with
    | none => rfl
    | some o' =>
      have z := KX a o' e
      rw [hobj] at z
      cases z
      exact absurd rfl (noLists_of KN e)
  have ne_of_ns : ∀ {b : Addr} {o' : Obj} {es : Array DictEntry} {ep : Nat}, s₁.heap.get? b = some o' → o'.data = .dict es ep → b ≠ a := fun {b o' es ep} e dd z => by
    rw [z, hobj] at e
    cases e
    cases dd
  have baseG : ∀ {b : Addr} {o' : Obj}, s₁.heap.get? b = some o' → b ≠ a → (hidT s₁.heap H).get? b = some o' := fun e z => hidT_get e (Hn z)
  have nsB : ∀ {b : Addr} {m : Str → Option Value}, s₁.heap.Ns b m → (hidT s₁.heap H).Ns b m := fun {b m} ⟨o', es, ep, e, dd, r⟩ => ⟨o', es, ep, baseG e (ne_of_ns e dd), dd, r⟩
  have hKb : (K w.params).In (hidT s₁.heap H) := fun b o' e => baseG (KX b o' e) fun z => by rw [z, hKa] at e; cases e
  have hM : Mod (K w.params) mg (hidT s₁.heap H) := by
    refine ⟨hKb, nsB G.T.g, ⟨mb, nsB G.T.b, G.T.builtins⟩, ?_⟩
    obtain ⟨mc, h1, h2⟩ := G.T.nolimit
    exact ⟨mc, nsB h1, h2⟩
  have hok : HOk l.prog w H s₁.heap := fun b u z => by
    by_cases hb : b = a
    · subst hb
      rw [Ha] at z
      cases z
      exact ⟨hobj, by rw [List.length_map]; exact Nat.le_trans hlen hn2, vs, _, rv, hobj⟩
    · rw [Hn hb] at z; cases z
  have e0 : Env0 l.prog w (K w.params) mg (hidT s₁.heap H) callerA [] s₁ H := ⟨rfl, hM, fun b o' e => of_hidT e, Nat.le_of_eq (hidT_size _ _), trivial, fun b hb => absurd (show b ∈ ([] : List Addr) from hb) (by simp), hok, .of_eq hg⟩
  obtain ⟨st1, hs⟩ := hlaw ns hlen
  have rel : Rel ⟨l.prog, w, K w.params, mg, hidT s₁.heap H, A.fa, A.ca⟩ [a] [.frz (ns.map .int)] H := by
    refine ⟨rfl, by simp, fun i o' h => ?_⟩
    cases i with
    | zero => cases h; exact ⟨a, rfl, ob, ns.map V.int, Ha, rvs_ints ns⟩
    | succ i => simp at h
  refine codeAny_mono ((hF _ hKb (nsB G.T.g)).run callerA [] s₁ H ⟨[.ref a], []⟩ [.ref a] [.ref a] (fun v _ => v = .bl true) (fun _ _ _ => False) hr rfl e0 (hb s₁ (.ref a)) (.cons rfl .nil) ⟨rfl, [a], _, [.ref 0], rel, .cons (.ref rfl) .nil, ?_⟩) fun r s' h => ?_
  · rw [hs]
    intro m' H' e r u hu
    cases hu
    rfl
  · match r, h with
    | .error e, h =>
      obtain ⟨_, _, _, _, _, _, _, _, _, _, _, _, z⟩ := h
      exact z.elim
    | .ok .next, h => exact h.elim
    | .ok .brk, h => exact h.elim
    | .ok .cont, h => exact h.elim
    | .ok (.ret u), h =>
      obtain ⟨v, H', os, bare, un, hok', r', q⟩ := h
      have q' : v = .bl true := q
      subst q'
      obtain rfl : u = Value.bool true := r'
      refine ⟨rfl, OldK.of_keep fun b o' e => ?_, os, bare⟩
      by_cases hb : b = a
      · subst hb
        rw [hobj] at e
        cases e
        exact (hok' b _ (un.frzs b _ _ Ha)).1
      · exact un.keep b o' e (Hn hb) (by intro z; exact absurd (show b ∈ ([] : List Addr) from z) (by simp)) (by simp)
end
end CS
namespace CS
open PySem PySem.Spec PyProof.Rows L2
section
variable {A : AD} {X : Cx} {W : WX} {tg elt iter : Expr} {ifs : List Expr} {scope : Scope} {own : List (Str × Nat)} {pos : Pos} {fi : DI} {t : CT} {p : DB} {f : DE}
theorem pms_setLc {i : Nat} {y : Str} {py spos : Pos} (hc : X.calm = true) (hN : X.N.Nodup) (hy : X.N[i]? = some y) (hyl : X.env.scope.names.lookup y = some .local)
    (hsw : swapsWith (.ListComp elt [⟨tg, iter, ifs, 0⟩] scope pos) (some (.Name y py)) spos.line X.env = pure true) (hi : PMI A X W tg iter fi) (ok : BlkOk X.N X.env.scope scope own)
    (hg : ∀ (s : Shared) (H : Hp) (C : Addr) (cl : List (Str × Addr)) (fp : List Addr), PG (X.blk s H scope (compEnvC scope cl C X.env) fp) tg (ctG X.K t)) (ht : ∀ (s : Shared) (H : Hp) (C : Addr) (cl : List (Str × Addr)) (fp : List Addr), PTs (X.blk s H scope (compEnvC scope cl C X.env) fp) ifs (tMB (gc A X) W0 p))
    (he : ∀ (s : Shared) (H : Hp) (C : Addr) (cl : List (Str × Addr)) (fp : List Addr), PE (X.blk s H scope (compEnvC scope cl C X.env) fp) elt (tM (gc A X) W0 f)) (hs : ∀ x, foldedSetIterable iter X.env x = pure x) (hsl : ∀ j ∈ t.slots, j ∈ own.map (·.2)) :
    PMS A X W (.Assign [.Name y py] (.ListComp elt [⟨tg, iter, ifs, 0⟩] scope pos) spos) (sLc i (eLc fi t p f (own.map (·.2)))) := by
  refine (ps_setLc hc hN hy hyl hsw hi ok hg ht he hs).imp fun D σ H ⟨m, ρ, st, r, v, k⟩ => ?_
  refine lc_imp (D0 := H) (ρ := ρ) r v ?_ hsl
  unfold sLc sb at k
  revert k
  generalize eLc fi t p f (own.map (·.2)) ρ st = rr
  intro k
  match rr, k with
  | none, k => exact k
  | some (.error x, st1), k => exact fun m1 H1 cls d e1 r1 x1 => k m1 H1 σ cls d e1 r1 (v.mono e1) x1
  | some (.ok xs, st1), k =>
    intro m1 H1 e1 r1 D' vs h0 hD hm hv
    obtain ⟨e2, r2⟩ := adopt (xs := xs) e1 r1 h0 hD hm (by simpa using hv)
    exact k _ _ _ e2 r2 ((v.mono e2).set (.ref (by rw [← r1.len]; simp)))
theorem pct_one {i : Nat} {x : Str} (hN : X.N.Nodup) (hi : X.N[i]? = some x) (hx : Loc X.env.scope x) (hf : X.fn x = true ∨ X.env.scope.names.lookup x = some .local) : PG X (.Name x pos) (ctG X.K (.one i)) := pg_name hN hi hx hf
theorem pcn_nil : PGs X [] (namesG []) := pgs_nil
theorem pcn_cons {i : Nat} {is : List Nat} {x : Str} {es : List Expr} (hN : X.N.Nodup) (hi : X.N[i]? = some x) (hx : Loc X.env.scope x) (hf : X.fn x = true ∨ X.env.scope.names.lookup x = some .local) (r : PGs X es (namesG is)) (hs : (assignEach (.Name x pos :: es) X.env).map (·.2) = assign (.Name x pos) X.env :: (assignEach es X.env).map (·.2)) :
    PGs X (.Name x pos :: es) (namesG (i :: is)) := pgs_cons (pg_name hN hi hx hf) r hs
theorem pct_tup {is : List Nat} {es : List Expr} {k : Nat} (hc : X.calm = true) (h : PGs X es (namesG is)) (hn : (assignEach es X.env).length = is.length) (hst : (assignEach es X.env).findIdx? (·.1) = none) : PG X (.Tuple es k pos) (ctG X.K (.tup is)) := pg_tup hc h hn hst
theorem pm_glob {x : Str} {v : MV} {u : V} (hg : Gl X x) (h : ∃ w, X.mg x = some w ∧ RelV u w) (q : ∀ m H, RV (gc A X) m H v u) (hd : (x == ("__debug__" : Str)) = false) : PM A X W (.Name x pos) (eC v) := by
  obtain ⟨w, h1, h2⟩ := h
  exact pm_const (pe_glob hg h1 h2 hd) q
theorem pm_cls {x : Str} {i : Nat} {C : Addr} (hg : Gl X x) (h : X.mg x = some (.ref C)) (hC : A.ca i = some C) (hd : (x == ("__debug__" : Str)) = false) : PM A X W (.Name x pos) (eC (.cl i)) := pm_const (pe_glob (v := .ref C) hg h rfl hd) fun m H => .cl hC
theorem pm_fnc {x : Str} {i : Nat} {C : Addr} (hg : Gl X x) (h : X.mg x = some (.ref C)) (hC : A.fa i = some C) (hd : (x == ("__debug__" : Str)) = false) : PM A X W (.Name x pos) (eC (.fn i)) := pm_const (pe_glob (v := .ref C) hg h rfl hd) fun m H => .fn hC
theorem pm_typ {x : Str} {n : String} (hg : Gl X x) (hm : X.mg x = none) (hv : bootBuiltins x = some (.type n)) (hn : x ≠ "__name__") (hd : (x == ("__debug__" : Str)) = false) : PM A X W (.Name x pos) (eC (.ty n)) :=
  pm_const (pe_bltn (v := .ty n) hg hm hv rfl hn hd) fun m H => .ty n
theorem pm_int {i : Int} {j : Nat} : PM A X W (.Constant (.int i) j pos) (eC (.int i)) := pm_const pe_int fun m H => .int i
theorem pm_bl {i : Bool} {j : Nat} : PM A X W (.Constant (.bool i) j pos) (eC (.bl i)) := pm_const pe_bl fun m H => .bl i
theorem pm_non {j : Nat} : PM A X W (.Constant .none j pos) (eC .non) := pm_const pe_non fun m H => .non
theorem pm_str {i : Str} {j : Nat} : PM A X W (.Constant (.str i) j pos) (eC (.str i)) := pm_const pe_str fun m H => .str i
end
structure DefT where
  name : Str
  qual : Str
  st : Stmt
  ps : List Str
  N : List Str
structure Pl where
  fa : Nat → Addr
  fd : Nat → FuncData
structure Gd (A : AD) (X : Cx) (W : WX) (D : List DefT) (p : Pl) (S : Nat → List MV → Sto → R MV) (l : Nat) : Prop where
  fns : ∀ j d, D[j]? = some d → FnG X.prog X.w X.K X.mg X.base l (p.fa j) (p.fd j) d.ps (spM (gc A X) (S j) d.ps.length)
  bnd : ∀ j d, D[j]? = some d → Binds X.K (p.fd j) d.ps []
  room : Room (l + 1) X.A
  gd : X.A.guards = some []
  tk : Takes X W
  calm : X.calm = true
  un : X.A.units + 64 < cLine
section
variable {A : AD} {X : Cx} {W : WX} {D : List DefT} {p : Pl} {S : Nat → List MV → Sto → R MV} {l : Nat}
theorem Gd.cv (G : Gd A X W D p S l) (j : Nat) (d : DefT) (h : D[j]? = some d) : CvOk A X W (.ref (p.fa j)) d.ps.length [] (fun xs _ st => S j xs st) :=
  cv_pos (G.fns j d h) (G.room.mono (Nat.le_succ l)) G.gd G.tk (G.bnd j d h)
theorem Gd.cvb (G : Gd A X W D p S l) (j : Nat) (d : DefT) (h : D[j]? = some d) : CvB A X (.ref (p.fa j)) d.ps.length (S j) :=
  cvb_pos (G.fns j d h) G.room G.gd (G.bnd j d h)
theorem takesB {X : Cx} : Takes X W0 := fun _ _ ⟨_, _, _, _, _, _, _, _, _, _, _, _, _, _, _, _, w⟩ => w.elim
theorem Gd.blk (G : Gd A X W D p S l) (s : Shared) (H : Hp) (scope : Scope) (cenv : Env) (fp : List Addr) : Gd A (X.blk s H scope cenv fp) W0 D p S l :=
  ⟨G.fns, G.bnd, G.room, G.gd, takesB, G.calm, G.un⟩
end
end CS
namespace CS
open PySem PySem.Spec PyProof.Rows L2
structure FnT (A : AD) (K : PySem.W.Frag) (mg : Str → Option Value) (x : Str) (i : Nat) (f : Addr) : Prop where
  mg : mg x = some (.ref f)
  kp : PySem.W.keepIn K (.ref f) = true
  fa : A.fa i = some f
structure ClT (A : AD) (K : PySem.W.Frag) (mg : Str → Option Value) (x : Str) (i : Nat) (C : Addr) : Prop where
  mg : mg x = some (.ref C)
  kp : PySem.W.keepIn K (.ref C) = true
  ca : A.ca i = some C
abbrev Tl := List (Nat × Nat)
abbrev tbOf (t : Tl) (S : Nat → List MV → Sto → R MV) : Tb := t.map fun e => (e.1, S e.2)
theorem tbOf_lookup {t : Tl} {S : Nat → List MV → Sto → R MV} {k : Nat} {g : List MV → Sto → R MV} (h : (tbOf t S).lookup k = some g) : ∃ j, (k, j) ∈ t ∧ g = S j := by
  induction t with
  | nil => cases h
  | cons e t ih =>
    unfold tbOf at h
    rw [List.map_cons, List.lookup_cons] at h
    split at h
    · rename_i q
      cases h
      rw [eq_of_beq q]
      exact ⟨e.2, List.mem_cons_self, rfl⟩
    · obtain ⟨j, h1, h2⟩ := ih h
      exact ⟨j, List.mem_cons_of_mem _ h1, h2⟩
def MtT (A : AD) (K : PySem.W.Frag) (p : Pl) (m : Str) (t : Tl) : Prop := ∀ e ∈ t, ∀ C, A.ca e.1 = some C → Cls K C ∧ Meth K C m (p.fa e.2)
def SpT (A : AD) (K : PySem.W.Frag) (p : Pl) (m : Str) (t : Tl) : Prop := ∀ e ∈ t, ∀ C, A.ca e.1 = some C → PySem.W.findIn K (.ref C) m = some (some (.ref (p.fa e.2))) ∧ PySem.W.isFn K (.ref (p.fa e.2)) = true
def NfT (A : AD) (K : PySem.W.Frag) (t : Tl) (os : List Nat) : Prop := InsOk A K os ∧ ∀ e ∈ t, ∀ C, A.ca e.1 = some C → (∀ n ∈ bNames, PySem.W.notFirst K C (.type n) = true) ∧ ∀ k2 ∈ os, ∀ D, A.ca k2 = some D → PySem.W.notFirst K C (.ref D) = true
def NeT (A : AD) (K : PySem.W.Frag) (t : Tl) : Prop := ∀ e ∈ t, ∀ C, A.ca e.1 = some C → PySem.W.findIn K (.ref C) "__ne__" = some (some (.builtin "object.__ne__")) ∧ PySem.W.subIn K (.ref C) (.type "object") = some true
def NbT (A : AD) (K : PySem.W.Frag) (t : Tl) : Prop := ∀ e ∈ t, ∀ C, A.ca e.1 = some C → PySem.W.findIn K (.ref C) "__bool__" = some none
def lensOk (D : List DefT) (t : Tl) (n : Nat) : Bool := t.all fun e => match D[e.2]? with | some d => d.ps.length == n | none => false
section
variable {A : AD} {X : Cx} {W : WX} {D : List DefT} {p : Pl} {S : Nat → List MV → Sto → R MV} {l : Nat}
theorem lensOk_of {t : Tl} {n : Nat} {e : Nat × Nat} (h : lensOk D t n = true) (he : e ∈ t) : ∃ d, D[e.2]? = some d ∧ d.ps.length = n := by
  have := List.all_eq_true.mp h e he
  split at this
  · rename_i d q
    exact ⟨d, q, eq_of_beq this⟩
  · cases this
theorem Gd.mts (G : Gd A X W D p S l) {m : Str} {t : Tl} {n : Nat} (M : MtT A X.K p m t) (h : lensOk D t n = true) : MtsOk A X W m n (tbOf t S) := fun k g hg C hC => by
  obtain ⟨j, h1, rfl⟩ := tbOf_lookup hg
  obtain ⟨d, h2, h3⟩ := lensOk_of h h1
  obtain ⟨c1, c2⟩ := M _ h1 C hC
  exact ⟨p.fa j, c1, c2, by rw [← h3]; exact G.cv j d h2⟩
theorem Gd.sp (G : Gd A X W D p S l) {m : Str} {t : Tl} {n : Nat} (M : SpT A X.K p m t) (h : lensOk D t n = true) : SpOk A X m n (tbOf t S) := fun k g hg C hC => by
  obtain ⟨j, h1, rfl⟩ := tbOf_lookup hg
  obtain ⟨d, h2, h3⟩ := lensOk_of h h1
  obtain ⟨c1, c2⟩ := M _ h1 C hC
  exact ⟨p.fa j, c1, c2, by rw [← h3]; exact G.cvb j d h2⟩
theorem NfT.ok {K : PySem.W.Frag} {t : Tl} {os : List Nat} (h : NfT A K t os) : NfOk A K (tbOf t S) os := ⟨h.1, fun k g hg C hC => by
  obtain ⟨j, h1, _⟩ := tbOf_lookup hg
  exact h.2 _ h1 C hC⟩
theorem NeT.ok {K : PySem.W.Frag} {t : Tl} (h : NeT A K t) : NeOk A K (tbOf t S) := fun k g hg C hC => by
  obtain ⟨j, h1, _⟩ := tbOf_lookup hg
  exact h _ h1 C hC
theorem NbT.ok {K : PySem.W.Frag} {t : Tl} (h : NbT A K t) : NbOk A K (tbOf t S) := fun k g hg C hC => by
  obtain ⟨j, h1, _⟩ := tbOf_lookup hg
  exact h _ h1 C hC
theorem Gd.cvk (G : Gd A X W D p S l) (j : Nat) (d : DefT) (h : D[j]? = some d) {sh : Shape} (hs : ShapeOk X.K (p.fd j) d.ps [] sh) : CvOk A X W (.ref (p.fa j)) sh.n sh.ks (fun xs zs st => S j (arrG .non sh xs zs []) st) :=
  cv_fn (dm := []) (G.fns j d h) (G.room.mono (Nat.le_succ l)) G.gd G.tk hs ⟨[], .nil, fun _ _ => .nil⟩
theorem Gd.mkk (G : Gd A X W D p S l) (j : Nat) (d : DefT) (h : D[j]? = some d) {C : Addr} {kc n : Nat} {ks : List Str} {arr : List Src} (M : Mk X.K C (p.fa j)) (hca : A.ca kc = some C) (hs : ShapeOk X.K (p.fd j) d.ps [] ⟨n + 1, ks, arr⟩) :
    CvOk A X W (.ref C) n ks (fun xs zs st => mkM (fun ys st => S j (arrG .non ⟨n + 1, ks, arr⟩ ys zs []) st) kc xs st) :=
  cv_mk (dm := []) M hca (G.fns j d h) G.room G.gd G.tk hs ⟨[], .nil, fun _ _ => .nil⟩
def posArr (n : Nat) : List Src := (List.range n).map .pos
theorem arr_pos {α : Type} {d : α} {n : Nat} {ks : List Str} {xs zs ds : List α} (h : xs.length = n) : arrG d ⟨n, ks, posArr n⟩ xs zs ds = xs := by
  subst h
  unfold arrG posArr
  rw [List.map_map]
  refine List.ext_getElem (by simp) fun i h1 h2 => ?_
  simp [srcG, List.getD, h2]
theorem Gd.mkp (G : Gd A X W D p S l) (j : Nat) (d : DefT) (h : D[j]? = some d) {C : Addr} {kc n : Nat} (hn : d.ps.length = n + 1) (M : Mk X.K C (p.fa j)) (hca : A.ca kc = some C) :
    CvOk A X W (.ref C) n [] (fun xs _ st => mkM (S j) kc xs st) := by
  have sk : ShapeOk X.K (p.fd j) d.ps [] ⟨n + 1, [], posArr (n + 1)⟩ := by
    refine ⟨by simp [posArr, hn], fun s us ws hK h1 h2 => ?_⟩
    cases ws with
    | cons a b => cases h2
    | nil =>
      rw [arr_pos h1]
      have := G.bnd j d h s us hK (by rw [List.append_nil, hn]; exact h1)
      rwa [List.append_nil] at this
  have c := G.mkk j d h M hca sk
  intro pins σ H s Q m st xs zs vs ws us ts I r h1 q1 h2 q2 l1 l2 k
  refine c pins σ H s Q m st xs zs vs ws us ts I r h1 q1 h2 q2 l1 l2 ?_
  have e : mkM (fun ys st => S j (arrG .non ⟨n + 1, [], posArr (n + 1)⟩ ys zs []) st) kc xs st = mkM (S j) kc xs st := by
    unfold mkM
    dsimp only
    rw [arr_pos (by rw [List.length_cons, l1])]
  dsimp only
  rw [e]
  exact k
end
def semR (D : List DefT) (den : Nat → (Nat → List MV → Sto → R MV) → DS) : Nat → Nat → List MV → Sto → R MV
  | 0, _ => fun _ _ => none
  | k + 1, j => match D[j]? with | some d => defM d.N.length (den j (semR D den k)) | none => fun _ _ => none
@[irreducible] def semL (D : List DefT) (den : Nat → (Nat → List MV → Sto → R MV) → DS) (k j : Nat) : List MV → Sto → R MV := semR D den k j
theorem semL_is {D : List DefT} {den : Nat → (Nat → List MV → Sto → R MV) → DS} {k : Nat} : semL D den k = semR D den k := by
  funext j
  unfold semL
  rfl
theorem sem_at {D : List DefT} {den : Nat → (Nat → List MV → Sto → R MV) → DS} {k j : Nat} {d : DefT} (h : D[j]? = some d) : semL D den (k + 1) j = defM d.N.length (den j (semL D den k)) := by
  rw [semL_is, semL_is]
  show (match D[j]? with | some d => defM d.N.length (den j (semR D den k)) | none => fun _ _ => none) = _
  rw [h]
theorem sem_zero {D : List DefT} {den : Nat → (Nat → List MV → Sto → R MV) → DS} {j : Nat} : semL D den 0 j = fun _ _ => none := by
  unfold semL
  rfl
abbrev cxi (d : DefT) (P : Program) (w : World) (K : PySem.W.Frag) (mg : Str → Option Value) (base : Heap) (f : Addr) (cdv : Value) (Ar : Around) (outer : List Env) (s : Shared) (H : Hp) (E : XK) : Cx :=
  cxOf (L2.CX P w) P w K mg base d.N d.qual (defScope d.st) f cdv Ar outer s H E
structure DefOk (K : PySem.W.Frag) (d : DefT) (f : Addr) (fd : FuncData) : Prop where
  fn : FunD K d.name d.qual (defArgs d.st) (defBody d.st) (defScope d.st) [] [] f fd
  sc : FnScope d.N d.ps (defScope d.st)
  bd : Binds K fd d.ps []
theorem fns_all {P : Program} {w : World} {K : PySem.W.Frag} {mg : Str → Option Value} {base : Heap} {A : AD} {D : List DefT} {p : Pl} {den : Nat → (Nat → List MV → Sto → R MV) → DS} (hD : ∀ j d, D[j]? = some d → DefOk K d (p.fa j) (p.fd j))
    (hB : ∀ j d, D[j]? = some d → ∀ (S : Nat → List MV → Sto → R MV) (l : Nat) (cdv : Value) (Ar : Around) (outer : List Env) (s : Shared) (H : Hp) (E : XK), Gd A (cxi d P w K mg base (p.fa j) cdv Ar outer s H E) (fun cls d _ H' => E cls d H') D p S l →
      PMSs A (cxi d P w K mg base (p.fa j) cdv Ar outer s H E) (fun cls d _ H' => E cls d H') (defBody d.st) (den j S)) :
    ∀ k j d, D[j]? = some d → FnG P w K mg base (4 * k) (p.fa j) (p.fd j) d.ps (spM ⟨P, w, K, mg, base, A.fa, A.ca⟩ (semL D den k j) d.ps.length) := by
  intro k
  induction k with
  | zero =>
    intro j d h
    refine ⟨fun vs H Q E h => h.1, fun Ar outer s H args us vs Q E hr hg e0 hb r ⟨_, m, st, xs, _, _, z⟩ => ?_⟩
    rw [sem_zero] at z
    exact (show False from z).elim
  | succ k ih =>
    intro j d h
    have ok := hD j d h
    rw [sem_at h]
    refine fnG_of (k := 4 * k + 3) ok.fn ok.sc fun cdv Ar outer s H E hr hg => ?_
    refine hB j d h (semL D den k) (4 * k) cdv Ar outer s H E ⟨ih, fun j d h => (hD j d h).bd, ?_, hg, takes_of rfl rfl rfl rfl, rfl, ?_⟩
    · exact hr.mono (by omega)
    · have z := hr.un
      show (Ar.deeper (envOfC d.qual (defScope d.st) s.heap.objs.size (p.fa j) cdv)).units + 64 < cLine
      omega
theorem pm_globT {A : AD} {X : Cx} {W : WX} {x : Str} {v : MV} {pos : Pos} (hg : Gl X x) (h : ∃ w u, X.mg x = some w ∧ RelV u w ∧ ∀ m H, RV (gc A X) m H v u) (hd : (x == ("__debug__" : Str)) = false) : PM A X W (.Name x pos) (eC v) := by
  obtain ⟨w, u, h1, h2, h3⟩ := h
  exact pm_const (pe_glob hg h1 h2 hd) h3
theorem nf_ty {K : PySem.W.Frag} {C : Addr} {tb : Value} (h : PySem.W.subIn K tb (.ref C) = some false) : PySem.W.notFirst K C tb = true := by unfold PySem.W.notFirst; rw [h]; simp
theorem nf_self {K : PySem.W.Frag} {C : Addr} : PySem.W.notFirst K C (.ref C) = true := by unfold PySem.W.notFirst; simp
theorem kit_self {K : PySem.W.Frag} {C : Addr} : PySem.W.kitOne K (.ref C) (.ref C) = some true := by unfold PySem.W.kitOne; simp
theorem bb_len : bootBuiltins "len" = some (.builtin "len") := by decide +kernel
theorem bb_repr : bootBuiltins "repr" = some (.builtin "repr") := by decide +kernel
theorem bb_isinstance : bootBuiltins "isinstance" = some (.builtin "isinstance") := by decide +kernel
theorem bb_abs : bootBuiltins "abs" = some (.builtin "abs") := by decide +kernel
theorem bb_min : bootBuiltins "min" = some (.builtin "min") := by decide +kernel
theorem bb_max : bootBuiltins "max" = some (.builtin "max") := by decide +kernel
theorem bb_sum : bootBuiltins "sum" = some (.builtin "sum") := by decide +kernel
theorem bb_any : bootBuiltins "any" = some (.builtin "any") := by decide +kernel
theorem bb_all : bootBuiltins "all" = some (.builtin "all") := by decide +kernel
theorem bb_divmod : bootBuiltins "divmod" = some (.builtin "divmod") := by decide +kernel
theorem bb_sorted : bootBuiltins "sorted" = some (.builtin "sorted") := by decide +kernel
theorem bb_int : bootBuiltins "int" = some (.type "int") := by decide +kernel
theorem bb_str : bootBuiltins "str" = some (.type "str") := by decide +kernel
theorem bb_bool : bootBuiltins "bool" = some (.type "bool") := by decide +kernel
theorem bb_list : bootBuiltins "list" = some (.type "list") := by decide +kernel
theorem bb_tuple : bootBuiltins "tuple" = some (.type "tuple") := by decide +kernel
end CS
namespace CS
open PySem L2
def Wp {α : Type} (r : R α) (P : α → Sto → Prop) (X : MX → Sto → Prop := fun _ _ => False) : Prop := match r with
  | none => False
  | some (.ok a, st) => P a st
  | some (.error x, st) => X x st
def WpS (r : SR) (P : Fl → MEnv → Sto → Prop) : Prop := match r with
  | none => False
  | some (f, ρ, st) => P f ρ st
section
variable {α β : Type} {P : α → Sto → Prop} {Q : β → Sto → Prop} {X : MX → Sto → Prop} {PS : Fl → MEnv → Sto → Prop} {ρ : MEnv} {st : Sto}
@[simp] theorem wp_ret {a : α} : Wp (ret a st) P X = P a st := id rfl
@[simp] theorem wp_none : Wp (none : R α) P X = False := id rfl
@[simp] theorem wp_ok {a : α} : Wp (some (.ok a, st)) P X = P a st := id rfl
@[simp] theorem wp_err {x : MX} : Wp (some (.error x, st) : R α) P X = X x st := id rfl
@[simp] theorem wp_bnd {r : R α} {f : α → Sto → R β} : Wp (bnd r f) Q X = Wp r (fun a st => Wp (f a st) Q X) X := by
  match r with
  | none => rfl
  | some (.error x, st) => rfl
  | some (.ok a, st) => rfl
theorem wp_bndN {r : R α} {f : α → Sto → R β} : Wp (bndN r f) Q X = Wp r (fun a st => Wp (f a st) Q X) (fun _ _ => False) := by
  match r with
  | none => rfl
  | some (.error x, st) => rfl
  | some (.ok a, st) => rfl
theorem Wp.mono {r : R α} {P P' : α → Sto → Prop} {X X' : MX → Sto → Prop} (h : Wp r P X) (k : ∀ a st, P a st → P' a st) (kx : ∀ x st, X x st → X' x st) : Wp r P' X' := by
  match r, h with
  | none, h => exact h
  | some (.error x, st), h => exact kx _ _ h
  | some (.ok a, st), h => exact k _ _ h
theorem Wp.imp {r : R α} {P P' : α → Sto → Prop} (h : Wp r P X) (k : ∀ a st, P a st → P' a st) : Wp r P' X := h.mono k fun _ _ z => z
theorem Wp.quiet {r : R α} {P P' : α → Sto → Prop} (h : Wp r P) (k : ∀ a st, P a st → P' a st) : Wp r P' X := h.mono k fun _ _ z => z.elim
theorem Wp.get {r : R α} (h : Wp r P) : ∃ a st, r = ret a st ∧ P a st := by
  match r, h with
  | some (.ok a, st), h => exact ⟨a, st, rfl, h⟩
@[simp] theorem wp_ite {c : Prop} [Decidable c] {a b : R α} : Wp (if c then a else b) P X = if c then Wp a P X else Wp b P X := by split <;> rfl
@[simp] theorem wps_some {f : Fl} : WpS (some (f, ρ, st)) PS = PS f ρ st := id rfl
@[simp] theorem wps_none : WpS none PS = False := id rfl
@[simp] theorem wps_ite {c : Prop} [Decidable c] {a b : SR} : WpS (if c then a else b) PS = if c then WpS a PS else WpS b PS := by split <;> rfl
theorem wps_sb {r : R α} {f : α → Sto → SR} : WpS (sb ρ r f) PS = Wp r (fun a st => WpS (f a st) PS) (fun x st => PS (.exc x) ρ st) := by
  match r with
  | none => rfl
  | some (.error x, st) => rfl
  | some (.ok a, st) => rfl
def Thn (f : DS) (PS : Fl → MEnv → Sto → Prop) (fl : Fl) (ρ : MEnv) (st : Sto) : Prop := match fl with
  | .nx => WpS (f ρ st) PS
  | fl => PS fl ρ st
@[simp] theorem thn_nx {f : DS} : Thn f PS .nx ρ st = WpS (f ρ st) PS := id rfl
@[simp] theorem thn_rt {f : DS} {v : MV} : Thn f PS (.rt v) ρ st = PS (.rt v) ρ st := id rfl
@[simp] theorem thn_bk {f : DS} : Thn f PS .bk ρ st = PS .bk ρ st := id rfl
@[simp] theorem thn_ct {f : DS} : Thn f PS .ct ρ st = PS .ct ρ st := id rfl
@[simp] theorem thn_exc {f : DS} {x : MX} : Thn f PS (.exc x) ρ st = PS (.exc x) ρ st := id rfl
theorem wps_sqn {r : SR} {f : DS} : WpS (sqn r f) PS = WpS r (Thn f PS) := by
  match r with
  | none => rfl
  | some (.nx, ρ, st) => rfl
  | some (.rt v, ρ, st) => rfl
  | some (.bk, ρ, st) => rfl
  | some (.ct, ρ, st) => rfl
  | some (.exc x, ρ, st) => rfl
theorem WpS.imp {r : SR} {PS PS' : Fl → MEnv → Sto → Prop} (h : WpS r PS) (k : ∀ f ρ st, PS f ρ st → PS' f ρ st) : WpS r PS' := by
  match r, h with
  | none, h => exact h
  | some (f, ρ, st), h => exact k _ _ _ h
@[simp] theorem e_var {i : Nat} {P : MV → Sto → Prop} : Wp (eVar i ρ st) P X = match ρ[i]? with | some (some v) => P v st | _ => False := by
  unfold eVar
  generalize ρ[i]? = o
  match o with
  | none => rfl
  | some none => rfl
  | some (some v) => rfl
@[simp] theorem e_c {v : MV} {P : MV → Sto → Prop} : Wp (eC v ρ st) P X = P v st := id rfl
@[simp] theorem e_op {g : MV → MV → Sto → R MV} {fa fb : DE} {P : MV → Sto → Prop} : Wp (eOp g fa fb ρ st) P X = Wp (fa ρ st) (fun x st1 => Wp (fb ρ st1) (fun y st2 => Wp (g x y st2) P X) X) X := by unfold eOp; simp only [wp_bnd]
@[simp] theorem e_un {g : MV → Sto → R MV} {fa : DE} {P : MV → Sto → Prop} : Wp (eUn g fa ρ st) P X = Wp (fa ρ st) (fun x st1 => Wp (g x st1) P X) X := by unfold eUn; simp only [wp_bnd]
def chB (z : MV) (a b : R MV) : R MV := match z with
  | .bl true => a
  | .bl false => b
  | _ => none
@[simp] theorem chB_bl {k : Bool} {a b : R MV} : chB (.bl k) a b = if k then a else b := by cases k <;> rfl
@[simp] theorem e_ch {g g' : MV → MV → Sto → R MV} {fa fb fc : DE} {P : MV → Sto → Prop} : Wp (eCh g g' fa fb fc ρ st) P X = Wp (fa ρ st) (fun x st1 => Wp (fb ρ st1) (fun y st2 => Wp (g x y st2) (fun z st3 => Wp (chB z (bnd (fc ρ st3) fun w st4 => g' y w st4) (ret (.bl false) st3)) P X) X) X) X := by unfold eCh; simp only [wp_bnd] <;> rfl
@[simp] theorem e_call {g : List MV → Sto → R MV} {fa : DA} {P : MV → Sto → Prop} : Wp (eCall g fa ρ st) P X = Wp (fa ρ st) (fun xs st1 => Wp (g xs st1) P X) X := by unfold eCall; simp only [wp_bnd]
@[simp] theorem e_callK {g : List MV → List MV → Sto → R MV} {fa fk : DA} {P : MV → Sto → Prop} : Wp (eCallK g fa fk ρ st) P X = Wp (fa ρ st) (fun xs st1 => Wp (fk ρ st1) (fun zs st2 => Wp (g xs zs st2) P X) X) X := by unfold eCallK; simp only [wp_bnd]
@[simp] theorem a_nil {P : List MV → Sto → Prop} : Wp (aNil ρ st) P X = P [] st := id rfl
@[simp] theorem a_cons {fa : DE} {g : DA} {P : List MV → Sto → Prop} : Wp (aCons fa g ρ st) P X = Wp (fa ρ st) (fun x st1 => Wp (g ρ st1) (fun xs st2 => P (x :: xs) st2) X) X := by unfold aCons; simp only [wp_bnd, wp_ret]
@[simp] theorem e_tup {g : DA} {P : MV → Sto → Prop} : Wp (eTup g ρ st) P X = Wp (g ρ st) (fun xs st1 => if xs.length ≤ sizeLine then P (.tup xs) st1 else False) X := by unfold eTup; simp only [wp_bnd, wp_ite, wp_ret, wp_none]
@[simp] theorem e_lst {g : DA} {P : MV → Sto → Prop} : Wp (eLst g ρ st) P X = Wp (g ρ st) (fun xs st1 => if xs.length ≤ sizeLine then P (.ref st1.length) (st1 ++ [.lst xs]) else False) X := by unfold eLst; simp only [wp_bnd, wp_ite, wp_ret, wp_none]
@[simp] theorem e_as {f : DE} {P : Bool → Sto → Prop} : Wp (asB f ρ st) P X = Wp (f ρ st) (fun x st1 => Wp (match x with | .bl k => ret k st1 | _ => none) P X) X := by unfold asB; simp only [wp_bnd] <;> rfl
@[simp] theorem e_tru {f : DE} {P : Bool → Sto → Prop} : Wp (bTru f ρ st) P X = Wp (f ρ st) (fun x st1 => Wp (match truM x st1 with | some k => ret k st1 | none => none) P X) X := by unfold bTru; simp only [wp_bnd] <;> rfl
@[simp] theorem b_and {p q : DB} {P : Bool → Sto → Prop} : Wp (bAnd p q ρ st) P X = Wp (p ρ st) (fun k st1 => if k then Wp (q ρ st1) P X else P false st1) X := by unfold bAnd; simp only [wp_bnd, wp_ite, wp_ret]
@[simp] theorem b_or {p q : DB} {P : Bool → Sto → Prop} : Wp (bOr p q ρ st) P X = Wp (p ρ st) (fun k st1 => if k then P true st1 else Wp (q ρ st1) P X) X := by unfold bOr; simp only [wp_bnd, wp_ite, wp_ret]
@[simp] theorem b_not {p : DB} {P : Bool → Sto → Prop} : Wp (bNot p ρ st) P X = Wp (p ρ st) (fun k st1 => P (!k) st1) X := by unfold bNot; simp only [wp_bnd, wp_ret]
def triB {α : Type} (o : Option Bool) (a b : R α) : R α := match o with
  | some true => a
  | some false => b
  | none => none
@[simp] theorem triB_some {α : Type} {k : Bool} {a b : R α} : triB (some k) a b = if k then a else b := by cases k <;> rfl
@[simp] theorem e_and {fa fb : DE} {P : MV → Sto → Prop} : Wp (eAnd fa fb ρ st) P X = Wp (fa ρ st) (fun x st1 => Wp (triB (truM x st1) (fb ρ st1) (ret x st1)) P X) X := by unfold eAnd; simp only [wp_bnd] <;> rfl
@[simp] theorem e_or {fa fb : DE} {P : MV → Sto → Prop} : Wp (eOr fa fb ρ st) P X = Wp (fa ρ st) (fun x st1 => Wp (triB (truM x st1) (ret x st1) (fb ρ st1)) P X) X := by
  unfold eOr
  simp only [wp_bnd]
  rfl
@[simp] theorem e_not {fa : DE} {P : MV → Sto → Prop} : Wp (eNot fa ρ st) P X = Wp (fa ρ st) (fun x st1 => Wp (match truM x st1 with | some k => ret (.bl (!k)) st1 | none => none) P X) X := by unfold eNot; simp only [wp_bnd] <;> rfl
@[simp] theorem e_if {p : DB} {fa fb : DE} {P : MV → Sto → Prop} : Wp (eIf p fa fb ρ st) P X = Wp (p ρ st) (fun k st1 => if k then Wp (fa ρ st1) P X else Wp (fb ρ st1) P X) X := by unfold eIf; simp only [wp_bnd, wp_ite]
@[simp] theorem e_new {f : DA} {P : MV → Sto → Prop} : Wp (eNew f ρ st) P X = Wp (f ρ st) (fun xs st1 => P (.ref st1.length) (st1 ++ [.lst xs])) X := by unfold eNew; simp only [wp_bnd, wp_ret]
@[simp] theorem e_fu {g : List MV → Sto → R MV} {f : DA} {P : MV → Sto → Prop} : Wp (eFu g f ρ st) P X = Wp (f ρ st) (fun xs st1 => Wp (g xs st1) P X) X := by unfold eFu; simp only [wp_bnd]
@[simp] theorem o_none {P : Option Int → Sto → Prop} : Wp (oNone ρ st) P X = P none st := id rfl
@[simp] theorem o_some {f : DE} {P : Option Int → Sto → Prop} : Wp (oSome f ρ st) P X = Wp (f ρ st) (fun x st1 => Wp (match x with | .int i => ret (some i) st1 | _ => none) P X) X := by unfold oSome; simp only [wp_bnd] <;> rfl
@[simp] theorem e_sl {fa : DE} {fl fh : DO} {P : MV → Sto → Prop} : Wp (eSl fa fl fh ρ st) P X = Wp (fa ρ st) (fun x st1 => Wp (fl ρ st1) (fun lo st2 => Wp (fh ρ st2) (fun hi st3 => Wp (slM x lo hi st3) P X) X) X) X := by unfold eSl; simp only [wp_bnd]
@[simp] theorem e_fld {ks : List Nat} {f : Str} {fa : DE} {P : MV → Sto → Prop} : Wp (eFld ks f fa ρ st) P X = Wp (fa ρ st) (fun x st1 => Wp (match x with
    | .ref i => (match st1[i]? with
      | some (.ins k fs) => if ks.contains k then (match fs.lookup f with | some v => ret v st1 | none => none) else none
      | _ => none)
    | _ => none) P X) X := by unfold eFld; simp only [wp_bnd] <;> rfl
@[simp] theorem e_mth {t : Tb} {m : Str} {fo : DE} {fa : DA} {P : MV → Sto → Prop} : Wp (eMth t m fo fa ρ st) P X = Wp (fo ρ st) (fun x st1 => Wp (match x with
    | .ref i => (match st1[i]? with
      | some (.ins k fs) => (match t.lookup k, fs.lookup m with
        | some g, none => bnd (fa ρ st1) fun xs st2 => g (x :: xs) st2
        | _, _ => none)
      | _ => none)
    | _ => none) P X) X := by unfold eMth; simp only [wp_bnd] <;> rfl
@[simp] theorem s_nx : WpS (sNx ρ st) PS = PS .nx ρ st := id rfl
@[simp] theorem s_bk : WpS (sBk ρ st) PS = PS .bk ρ st := id rfl
@[simp] theorem s_ct : WpS (sCt ρ st) PS = PS .ct ρ st := id rfl
@[simp] theorem s_no : WpS (sNo ρ st) PS = False := id rfl
@[simp] theorem s_rn : WpS (sRn ρ st) PS = PS (.rt .non) ρ st := id rfl
@[simp] theorem s_sq {f g : DS} : WpS (sSq f g ρ st) PS = WpS (f ρ st) (Thn g PS) := by unfold sSq; exact wps_sqn
@[simp] theorem s_rt {f : DE} : WpS (sRt f ρ st) PS = Wp (f ρ st) (fun x st1 => PS (.rt x) ρ st1) (fun x st => PS (.exc x) ρ st) := by unfold sRt; simp only [wps_sb, wps_some]
@[simp] theorem s_ex {f : DE} : WpS (sEx f ρ st) PS = Wp (f ρ st) (fun x st1 => PS .nx ρ st1) (fun x st => PS (.exc x) ρ st) := by unfold sEx; simp only [wps_sb, wps_some]
@[simp] theorem s_if {p : DB} {f g : DS} : WpS (sIf p f g ρ st) PS = Wp (p ρ st) (fun k st1 => if k then WpS (f ρ st1) PS else WpS (g ρ st1) PS) (fun x st => PS (.exc x) ρ st) := by unfold sIf; simp only [wps_sb, wps_ite]
@[simp] theorem s_as {f : DE} {g : DG} : WpS (sAs f g ρ st) PS = Wp (f ρ st) (fun x st1 => WpS (g x ρ st1) PS) (fun x st => PS (.exc x) ρ st) := by unfold sAs; simp only [wps_sb]
@[simp] theorem s_pr {i j : Nat} {f : DA} : WpS (sPr i j f ρ st) PS = Wp (f ρ st) (fun xs st1 => WpS (match xs with | [v, w] => some (.nx, (ρ.set i (some v)).set j (some w), st1) | _ => none) PS) (fun x st => PS (.exc x) ρ st) := by unfold sPr; simp only [wps_sb] <;> rfl
@[simp] theorem s_lc {i : Nat} {f : DA} : WpS (sLc i f ρ st) PS = Wp (f ρ st) (fun xs st1 => PS .nx (ρ.set i (some (.ref st1.length))) (st1 ++ [.lst xs])) (fun x st => PS (.exc x) ρ st) := by unfold sLc; simp only [wps_sb, wps_some]
@[simp] theorem s_fl {ks : List Nat} {f : Str} {fo fv : DE} : WpS (sFl ks f fo fv ρ st) PS = Wp (fv ρ st) (fun y st1 => Wp (fo ρ st1) (fun x st2 => WpS (match x with
    | .ref i => (match st2[i]? with
      | some (.ins k fs) => if ks.contains k && decide (fs.length < 1000) then some (.nx, ρ, st2.set i (.ins k (putM f y fs))) else none
      | _ => none)
    | _ => none) PS) (fun x st => PS (.exc x) ρ st)) (fun x st => PS (.exc x) ρ st) := by unfold sFl; simp only [wps_sb] <;> rfl
@[simp] theorem s_for {f : DI} {g : DG} {b : DS} : WpS (sFor f g b ρ st) PS = Wp (f ρ st) (fun it st1 => WpS (forM it g b it.cnt 0 ρ st1) PS) (fun x st => PS (.exc x) ρ st) := by unfold sFor; simp only [wps_sb]
@[simp] theorem g_nm {i : Nat} {v : MV} : WpS (gNm i v ρ st) PS = PS .nx (ρ.set i (some v)) st := id rfl
@[simp] theorem g_nl : WpS (gNl [] ρ st) PS = PS .nx ρ st := id rfl
@[simp] theorem g_cn {g : DG} {gs : DGs} {x : MV} {xs : List MV} : WpS (gCn g gs (x :: xs) ρ st) PS = WpS (g x ρ st) (Thn (gs xs) PS) := wps_sqn
@[simp] theorem g_tp {gs : DGs} {n : Nat} {xs : List MV} : WpS (gTp gs n (.tup xs) ρ st) PS = if xs.length = n then WpS (gs xs ρ st) PS else False := by unfold gTp; simp only [wps_ite, wps_none]
@[simp] theorem g_sb {fo fi : DE} {v : MV} : WpS (gSb fo fi v ρ st) PS = Wp (fo ρ st) (fun o st1 => Wp (fi ρ st1) (fun i st2 => WpS (match setM o i v st2 with | some st3 => some (.nx, ρ, st3) | none => none) PS) (fun x st => PS (.exc x) ρ st)) (fun x st => PS (.exc x) ρ st) := by unfold gSb; simp only [wps_sb] <;> rfl
@[simp] theorem i_sq {f : DE} {P : IM → Sto → Prop} : Wp (iSq f ρ st) P X = Wp (f ρ st) (fun x st1 => Wp (match isOf x st1 with | some s => ret (.sq s) st1 | none => none) P X) X := by unfold iSq; simp only [wp_bnd] <;> rfl
@[simp] theorem i_r1 {f : DA} {P : IM → Sto → Prop} : Wp (iR1 f ρ st) P X = Wp (f ρ st) (fun xs st1 => Wp (match xs with
    | [.int j] => if -(2 ^ 62) ≤ j ∧ j < 2 ^ 62 then ret (.rng 0 j.toNat) st1 else none
    | _ => none) P X) X := by unfold iR1; simp only [wp_bnd] <;> rfl
@[simp] theorem i_r2 {f : DA} {P : IM → Sto → Prop} : Wp (iR2 f ρ st) P X = Wp (f ρ st) (fun xs st1 => Wp (match xs with
    | [.int i, .int j] => if -(2 ^ 62) ≤ i ∧ i < 2 ^ 62 ∧ -(2 ^ 62) ≤ j ∧ j < 2 ^ 62 then ret (.rng i (j - i).toNat) st1 else none
    | _ => none) P X) X := by unfold iR2; simp only [wp_bnd] <;> rfl
@[simp] theorem i_en {f : DA} {P : IM → Sto → Prop} : Wp (iEn f ρ st) P X = Wp (f ρ st) (fun xs st1 => Wp (match xs with | [x] => (match isOf x st1 with | some s => ret (.en s) st1 | none => none) | _ => none) P X) X := by unfold iEn; simp only [wp_bnd] <;> rfl
@[simp] theorem i_zp {f : DA} {P : IM → Sto → Prop} : Wp (iZp f ρ st) P X = Wp (f ρ st) (fun xs st1 => Wp (match xs with | [x, y] => (match isOf x st1, isOf y st1 with | some s, some s' => ret (.zp s s') st1 | _, _ => none) | _ => none) P X) X := by unfold iZp; simp only [wp_bnd] <;> rfl
@[simp] theorem e_lc {fi : DI} {t : CT} {p : DB} {f : DE} {vs : List Nat} {P : List MV → Sto → Prop} : Wp (eLc fi t p f vs ρ st) P X = Wp (fi ρ st) (fun it st1 => if it.cnt ≤ sizeLine then Wp (lcM it t p f it.cnt 0 (wipeM ρ vs) st1) P X else False) X := by unfold eLc; simp only [wp_bnd, wp_ite, wp_none]
end
theorem wp_for {it : IM} {g : DG} {b : DS} {PS : Fl → MEnv → Sto → Prop} (I : Nat → MEnv → Sto → Prop) {ρ : MEnv} {st : Sto} (h0 : I 0 ρ st)
    (hs : ∀ i ρ st, i < it.cnt → I i ρ st → ∃ x, it.get i st = some x ∧ WpS (g x ρ st) (Thn (fun ρ1 st1 => b ρ1 st1) fun fl ρ2 st2 => match fl with
      | .nx => I (i + 1) ρ2 st2
      | .ct => I (i + 1) ρ2 st2
      | .bk => PS .nx ρ2 st2
      | fl => PS fl ρ2 st2))
    (hg : Goes g) (hn : ∀ ρ st, I it.cnt ρ st → it.fin st = true ∧ PS .nx ρ st) : WpS (forM it g b it.cnt 0 ρ st) PS := by
  have key : ∀ n i ρ st, i + n = it.cnt → I i ρ st → WpS (forM it g b n i ρ st) PS := by
    intro n
    induction n with
    | zero =>
      intro i ρ st hi h
      obtain ⟨h1, h2⟩ := hn ρ st (by rw [← hi]; exact h)
      unfold forM
      rw [if_pos h1]
      exact h2
    | succ n ih =>
      intro i ρ st hi h
      obtain ⟨x, hx, w⟩ := hs i ρ st (by omega) h
      unfold forM
      simp only [hx]
      revert w
      cases q : g x ρ st with
      | none => exact fun w => w
      | some r =>
        obtain ⟨fl, ρ1, st1⟩ := r
        intro w
        rcases hg _ _ _ _ _ _ q with rfl | ⟨e, rfl⟩
        · have w : WpS (b ρ1 st1) _ := w
          show WpS (aft (b ρ1 st1) (forM it g b n (i + 1))) PS
          revert w
          cases q2 : b ρ1 st1 with
          | none => exact fun w => w
          | some r =>
            obtain ⟨fl, ρ2, st2⟩ := r
            intro w
            cases fl with
            | nx => exact ih (i + 1) ρ2 st2 (by omega) w
            | ct => exact ih (i + 1) ρ2 st2 (by omega) w
            | bk => exact w
            | rt v => exact w
            | exc e => exact w
        · exact w
  exact key _ 0 ρ st (by omega) h0
theorem wp_lc {it : IM} {t : CT} {p : DB} {f : DE} {ρ : MEnv} {st : Sto} {X : MX → Sto → Prop} {P : List MV → Sto → Prop} (I : Nat → List MV → Sto → Prop) (h0 : I 0 [] st)
    (hs : ∀ i acc st, i < it.cnt → I i acc st → ∃ x ρ1, it.get i st = some x ∧ ctM t x ρ = some ρ1 ∧ Wp (p ρ1 st) (fun k st1 => if k then Wp (f ρ1 st1) (fun y st2 => I (i + 1) (acc ++ [y]) st2) else I (i + 1) acc st1))
    (hn : ∀ acc st, I it.cnt acc st → it.fin st = true ∧ P acc st) : Wp (lcM it t p f it.cnt 0 ρ st) P X := by
  have key : ∀ n i acc st, i + n = it.cnt → I i acc st → Wp (lcM it t p f n i ρ st) (fun xs st1 => P (acc ++ xs) st1) := by
    intro n
    induction n with
    | zero =>
      intro i acc st hi h
      obtain ⟨h1, h2⟩ := hn acc st (by rw [← hi]; exact h)
      unfold lcM
      rw [if_pos h1, wp_ret, List.append_nil]
      exact h2
    | succ n ih =>
      intro i acc st hi h
      obtain ⟨x, ρ1, hx, h1, w⟩ := hs i acc st (by omega) h
      unfold lcM
      simp only [hx, h1, wp_bndN]
      refine Wp.imp w fun k st1 w => ?_
      cases k with
      | false =>
        simp only [Bool.false_eq_true, if_false] at w ⊢
        exact ih (i + 1) acc st1 (by omega) w
      | true =>
        simp only [if_true, wp_bndN, wp_ret] at w ⊢
        refine Wp.imp w fun y st2 w => ?_
        have q := ih (i + 1) (acc ++ [y]) st2 (by omega) w
        simpa only [List.append_assoc, List.singleton_append] using q
  have q := key it.cnt 0 [] st (by omega) h0
  simp only [List.nil_append] at q
  exact q.quiet fun _ _ z => z
@[simp] theorem b_yes {ρ : MEnv} {st : Sto} {P : Bool → Sto → Prop} {X : MX → Sto → Prop} : Wp (bYes ρ st) P X = P true st := id rfl
theorem wp_forN {it : IM} {g : DG} {b : DS} {PS : Fl → MEnv → Sto → Prop} {n : Nat} (hn : it.cnt = n) (I : Nat → MEnv → Sto → Prop) {ρ : MEnv} {st : Sto} (h0 : I 0 ρ st)
    (hg : Goes g) (hs : ∀ i ρ st, i < n → I i ρ st → ∃ x, it.get i st = some x ∧ WpS (g x ρ st) (Thn (fun ρ1 st1 => b ρ1 st1) fun fl ρ2 st2 => match fl with
      | .nx => I (i + 1) ρ2 st2
      | .ct => I (i + 1) ρ2 st2
      | .bk => PS .nx ρ2 st2
      | fl => PS fl ρ2 st2))
    (he : ∀ ρ st, I n ρ st → it.fin st = true ∧ PS .nx ρ st) : WpS (forM it g b n 0 ρ st) PS := by
  subst hn
  exact wp_for I h0 hs hg he
theorem wp_lcN {it : IM} {t : CT} {p : DB} {f : DE} {ρ : MEnv} {st : Sto} {X : MX → Sto → Prop} {P : List MV → Sto → Prop} {n : Nat} (hn : it.cnt = n) (I : Nat → List MV → Sto → Prop) (h0 : I 0 [] st)
    (hs : ∀ i acc st, i < n → I i acc st → ∃ x ρ1, it.get i st = some x ∧ ctM t x ρ = some ρ1 ∧ Wp (p ρ1 st) (fun k st1 => if k then Wp (f ρ1 st1) (fun y st2 => I (i + 1) (acc ++ [y]) st2) else I (i + 1) acc st1))
    (he : ∀ acc st, I n acc st → it.fin st = true ∧ P acc st) : Wp (lcM it t p f n 0 ρ st) P X := by
  subst hn
  exact wp_lc I h0 hs he
end CS
namespace CS
open PySem L2
section
variable {P : MV → Sto → Prop} {X : MX → Sto → Prop}
def FinP (st : Sto) (P : MV → Sto → Prop) (X : MX → Sto → Prop) (fl : Fl) (_ : MEnv) (st' : Sto) : Prop := match fl with
  | .nx => P .non (gcS st st')
  | .rt v => P v (if lowV st.length v then gcS st st' else st')
  | .exc x => X x (if lowX st.length x then gcS st st' else st')
  | _ => False
@[simp] theorem finP_nx {st st' : Sto} {ρ : MEnv} : FinP st P X .nx ρ st' = P .non (gcS st st') := id rfl
@[simp] theorem finP_rt {st st' : Sto} {ρ : MEnv} {v : MV} : FinP st P X (.rt v) ρ st' = P v (if lowV st.length v then gcS st st' else st') := id rfl
@[simp] theorem finP_exc {st st' : Sto} {ρ : MEnv} {x : MX} : FinP st P X (.exc x) ρ st' = X x (if lowX st.length x then gcS st st' else st') := id rfl
theorem wp_def {n : Nat} {d : DS} {args : List MV} {st : Sto} : Wp (defM n d args st) P X = WpS (d (start n args) st) (FinP st P X) := by
  unfold defM
  cases q : d (start n args) st with
  | none => rfl
  | some r =>
    obtain ⟨fl, ρ, st'⟩ := r
    cases fl with
    | nx => rfl
    | bk => rfl
    | ct => rfl
    | rt v =>
      show Wp (if lowV st.length v then ret v (gcS st st') else ret v st') P X = P v (if lowV st.length v then gcS st st' else st')
      split <;> rfl
    | exc x =>
      show Wp (if lowX st.length x then some (.error x, gcS st st') else some (.error x, st')) P X = X x (if lowX st.length x then gcS st st' else st')
      split <;> rfl
theorem wp_sem {D : List DefT} {den : Nat → (Nat → List MV → Sto → R MV) → DS} {k j : Nat} {d : DefT} {args : List MV} {st : Sto} (h : D[j]? = some d) (w : WpS (den j (semL D den k) (start d.N.length args) st) (FinP st P X)) : Wp (semL D den (k + 1) j args st) P X := by
  rw [sem_at h, wp_def]
  exact w
@[simp] theorem gc_same {st : Sto} : gcS st st = st := by
  unfold gcS
  split
  · simp
  · rfl
@[simp] theorem gc_app {st t : Sto} : gcS st (st ++ t) = st := by
  have h : gcOk st (st ++ t) = true := by
    unfold gcOk
    rw [List.all_eq_true]
    intro i hi
    have hi := List.mem_range.mp hi
    rw [List.getElem?_append_left hi]
    simp only [List.getElem?_eq_getElem hi, eqO_refl, Bool.true_or]
  unfold gcS
  rw [if_pos h, List.take_left]
theorem wp_eq {α : Type} {r : R α} {a : α} {st : Sto} (h : Wp r fun b st' => b = a ∧ st' = st) : r = ret a st := by
  obtain ⟨b, st', e, rfl, rfl⟩ := h.get
  exact e
theorem def_eq {n : Nat} {d : DS} {args : List MV} {st : Sto} {v : MV} (hv : lowV st.length v = true) (w : WpS (d (start n args) st) (fun fl _ st' => fl = .rt v ∧ ∃ t, st' = st ++ t)) : defM n d args st = ret v st := by
  refine wp_eq (wp_def.symm ▸ WpS.imp w fun fl ρ st' hq => ?_)
  obtain ⟨rfl, t, rfl⟩ := hq
  rw [finP_rt, if_pos hv, gc_app]
  exact ⟨rfl, rfl⟩
theorem def_eqN {n : Nat} {d : DS} {args : List MV} {st : Sto} (w : WpS (d (start n args) st) (fun fl _ st' => fl = .nx ∧ ∃ t, st' = st ++ t)) : defM n d args st = ret .non st := by
  refine wp_eq (wp_def.symm ▸ WpS.imp w fun fl ρ st' hq => ?_)
  obtain ⟨rfl, t, rfl⟩ := hq
  rw [finP_nx, gc_app]
  exact ⟨rfl, rfl⟩
end
theorem set_get {st : Sto} {i : Nat} {o o' : MO} (h : st[i]? = some o) : (st.set i o')[i]? = some o' := List.getElem?_set_self (List.getElem?_eq_some_iff.mp h).1
theorem gc_len {st st' : Sto} (h : st'.length = st.length) : gcS st st' = st' := by
  unfold gcS
  split
  · rw [List.take_of_length_le (by omega)]
  · rfl
@[simp] theorem gc_set {st : Sto} {i : Nat} {o : MO} : gcS st (st.set i o) = st.set i o := gc_len (by simp)
def JugAt (j : Nat) (st : Sto) : Prop := ∃ a b c : Int, st[j]? = some (.lst [.int a, .int b, .int c])
structure Jg (j : Nat) (st st' : Sto) : Prop where
  le : st.length ≤ st'.length
  at_ : ∀ i, i < st.length → i ≠ j → st'[i]? = st[i]?
  jug : JugAt j st'
theorem JugAt.lt {j : Nat} {st : Sto} (h : JugAt j st) : j < st.length := by
  obtain ⟨a, b, c, h⟩ := h
  exact (List.getElem?_eq_some_iff.mp h).1
theorem Jg.refl {j : Nat} {st : Sto} (h : JugAt j st) : Jg j st st := ⟨Nat.le_refl _, fun _ _ _ => rfl, h⟩
theorem Jg.trans {j : Nat} {st st1 st2 : Sto} (h : Jg j st st1) (k : Jg j st1 st2) : Jg j st st2 :=
  ⟨Nat.le_trans h.le k.le, fun i hi hj => (k.at_ i (Nat.lt_of_lt_of_le hi h.le) hj).trans (h.at_ i hi hj), k.jug⟩
theorem Jg.app {j : Nat} {st st1 : Sto} (h : Jg j st st1) (t : Sto) : Jg j st (st1 ++ t) := by
  refine ⟨by rw [List.length_append]; have := h.le; omega, fun i hi hj => ?_, ?_⟩
  · rw [List.getElem?_append_left (Nat.lt_of_lt_of_le hi h.le)]
    exact h.at_ i hi hj
  · obtain ⟨a, b, c, e⟩ := h.jug
    exact ⟨a, b, c, by rw [List.getElem?_append_left (JugAt.lt h.jug)]; exact e⟩
theorem Jg.gc {j : Nat} {st st1 : Sto} (h : Jg j st st1) (hj : j < st.length) : Jg j st (gcS st st1) := by
  unfold gcS
  split
  · refine ⟨by rw [List.length_take]; have := h.le; omega, fun i hi hne => ?_, ?_⟩
    · rw [List.getElem?_take_of_lt hi]; exact h.at_ i hi hne
    · obtain ⟨a, b, c, e⟩ := h.jug
      exact ⟨a, b, c, by rw [List.getElem?_take_of_lt hj]; exact e⟩
  · exact h
theorem Jg.gcI {j : Nat} {st st1 : Sto} {c : Prop} [Decidable c] (h : Jg j st st1) (hj : j < st.length) : Jg j st (if c then gcS st st1 else st1) := by
  split
  · exact h.gc hj
  · exact h
theorem Jg.set {j : Nat} {st : Sto} (h : j < st.length) (a b c : Int) : Jg j st (st.set j (.lst [.int a, .int b, .int c])) := by
  refine ⟨by simp, fun i hi hne => ?_, a, b, c, by simp [h]⟩
  rw [List.getElem?_set_ne (Ne.symm hne)]
theorem Jg.look {j i : Nat} {st st1 : Sto} {o : MO} (h : Jg j st st1) (hi : st[i]? = some o) (hne : i ≠ j) : st1[i]? = some o := by
  rw [h.at_ i (List.getElem?_eq_some_iff.mp hi).1 hne]
  exact hi
end CS
namespace CS
open PySem L2
section
variable {i j : Int} {a b : Bool} {x y : Str} {xs ys : List MV} {st : Sto} {n : Nat}
@[simp] theorem m_add : addM (.int i) (.int j) st = ret (.int (i + j)) st := rfl
@[simp] theorem m_addS : addM (.str x) (.str y) st = if x.length + y.length ≤ sizeLine then ret (.str (x ++ y)) st else none := rfl
@[simp] theorem m_addT : addM (.tup xs) (.tup ys) st = if xs.length + ys.length ≤ sizeLine then ret (.tup (xs ++ ys)) st else none := rfl
@[simp] theorem m_sub : subM (.int i) (.int j) st = ret (.int (i - j)) st := rfl
theorem m_mulL (h : i.natAbs < 2 ^ 64) : mulM (.int i) (.int j) st = ret (.int (i * j)) st := if_pos (.inl h)
theorem m_mulR (h : j.natAbs < 2 ^ 64) : mulM (.int i) (.int j) st = ret (.int (i * j)) st := if_pos (.inr (.inl h))
theorem m_div (h : 0 < j) (h2 : j.natAbs < 2 ^ 64) : divM (.int i) (.int j) st = ret (.int (i / j)) st := by
  refine if_pos ⟨h, ?_⟩
  have : j.natAbs.log2 < 64 := by
    rw [Nat.log2_lt (by omega)]
    exact h2
  omega
theorem m_mod (h : 0 < j) : modM (.int i) (.int j) st = ret (.int (i % j)) st := if_pos h
@[simp] theorem m_neg : negM (.int i) st = ret (.int (-i)) st := rfl
theorem m_pow (h : 0 ≤ j ∧ j ≤ 1000000 ∧ i.natAbs < 2 ^ 64) : powM (.int i) (.int j) st = ret (.int (i ^ j.toNat)) st := if_pos h
@[simp] theorem m_lt : ltM (.int i) (.int j) st = ret (.bl (decide (i < j))) st := rfl
@[simp] theorem m_le : leM (.int i) (.int j) st = ret (.bl (decide (i ≤ j))) st := rfl
@[simp] theorem m_gt : gtM (.int i) (.int j) st = ret (.bl (decide (j < i))) st := rfl
@[simp] theorem m_ge : geM (.int i) (.int j) st = ret (.bl (decide (j ≤ i))) st := rfl
@[simp] theorem m_abs : absM [.int i] st = ret (.int (if i < 0 then -i else i)) st := rfl
@[simp] theorem m_int : intM [.int i] st = ret (.int i) st := rfl
@[simp] theorem m_max : maxM [.int i, .int j] st = ret (.int (if j > i then j else i)) st := rfl
@[simp] theorem m_min : minM [.int i, .int j] st = ret (.int (if j < i then j else i)) st := rfl
theorem m_str (h : i.natAbs.log2 < 1920) : strM [.int i] st = ret (.str (toString i)) st := if_pos h
theorem m_divmod (h : 0 < j ∧ j < 1073741824) : divmodM [.int i, .int j] st = ret (.tup [.int (i / j), .int (i % j)]) st := if_pos h
@[simp] theorem m_lenT : lenM [.tup xs] st = ret (MV.int xs.length) st := rfl
theorem m_lenR {k : Nat} (h : listOf st k = some xs) : lenM [.ref k] st = ret (MV.int xs.length) st := by
  show (match (listOf st k).map fun xs => (xs.length : Int) with | some n => ret (MV.int n) st | none => none) = _
  rw [h]
  rfl
theorem list_at {k : Nat} (h : st[k]? = some (.lst xs)) : listOf st k = some xs := by unfold listOf; rw [h]
theorem list_fr {k : Nat} (h : st[k]? = some (.frz xs)) : listOf st k = some xs := by unfold listOf; rw [h]
@[simp] theorem own_int {t : Tb} : ownG t (.int i) st = none := rfl
@[simp] theorem own_tup {t : Tb} : ownG t (.tup xs) st = none := rfl
@[simp] theorem own_str {t : Tb} : ownG t (.str x) st = none := rfl
@[simp] theorem own_bl {t : Tb} : ownG t (.bl a) st = none := rfl
@[simp] theorem own_non {t : Tb} : ownG t .non st = none := rfl
theorem own_lst {t : Tb} {k : Nat} {xs : List MV} (h : listOf st k = some xs) : ownG t (.ref k) st = none := by
  unfold ownG
  unfold listOf at h
  split at h
  · rename_i q; simp only [q]
  · rename_i q; simp only [q]
  · cases h
theorem own_ins {t : Tb} {k c : Nat} {fs : List (Str × MV)} (h : st[k]? = some (.ins c fs)) : ownG t (.ref k) st = t.lookup c := by unfold ownG; simp only [h]
@[simp] theorem m_lenIT {t : Tb} : lenI t [.tup xs] st = ret (MV.int xs.length) st := rfl
theorem m_lenIR {t : Tb} {k : Nat} (h : listOf st k = some xs) : lenI t [.ref k] st = ret (MV.int xs.length) st := by
  show (match ownG t (.ref k) st with | some g => _ | none => lenM [.ref k] st) = _
  rw [own_lst h]
  exact m_lenR h
theorem at_nat {α : Type} {l : List α} {v : α} {m : Nat} (h : l[m]? = some v) : atI l (m : Int) = some v := by
  have hl := (List.getElem?_eq_some_iff.mp h).1
  unfold atI ixN
  rw [if_pos (by omega), if_pos (by omega)]
  simpa using h
theorem at_int {α : Type} {l : List α} {v : α} {k : Int} (h0 : 0 ≤ k) (h : l[k.toNat]? = some v) : atI l k = some v := by
  have := at_nat h
  rwa [Int.toNat_of_nonneg h0] at this
theorem m_ixT {k : Int} {v : MV} (h : atI xs k = some v) : ixM (.tup xs) (.int k) st = ret v st := by unfold ixM; simp only [h]
theorem m_ixR {k : Int} {r : Nat} {v : MV} (h : listOf st r = some xs) (h2 : atI xs k = some v) : ixM (.ref r) (.int k) st = ret v st := by unfold ixM; simp only [h, h2]
@[simp] theorem m_ixT0 {v : MV} : ixM (.tup (v :: xs)) (.int 0) st = ret v st := m_ixT (at_int (by decide) rfl)
@[simp] theorem m_ixT1 {u v : MV} : ixM (.tup (u :: v :: xs)) (.int 1) st = ret v st := m_ixT (at_int (by decide) rfl)
@[simp] theorem m_ixT2 {u v w : MV} : ixM (.tup (u :: v :: w :: xs)) (.int 2) st = ret w st := m_ixT (at_int (by decide) rfl)
@[simp] theorem m_ixT3 {u v w z : MV} : ixM (.tup (u :: v :: w :: z :: xs)) (.int 3) st = ret z st := m_ixT (at_int (by decide) rfl)
@[simp] theorem ty_int : tyM (.int i) st = some (.b "int") := rfl
@[simp] theorem ty_bl : tyM (.bl a) st = some (.b "bool") := rfl
@[simp] theorem ty_str : tyM (.str x) st = some (.b "str") := rfl
@[simp] theorem ty_non : tyM .non st = some (.b "NoneType") := rfl
@[simp] theorem ty_tup : tyM (.tup xs) st = some (.b "tuple") := rfl
theorem ty_lst {k : Nat} (h : listOf st k = some xs) : tyM (.ref k) st = some (.b "list") := by
  unfold listOf at h
  unfold tyM
  split at h
  · rename_i q; simp only [q]
  · rename_i q; simp only [q]
  · cases h
theorem ty_ins {k c : Nat} {fs : List (Str × MV)} (h : st[k]? = some (.ins c fs)) : tyM (.ref k) st = some (.o c) := by unfold tyM; simp only [h]
@[simp] theorem kb_ii : kitB "int" "int" = some true := by decide +kernel
@[simp] theorem kb_ib : kitB "int" "bool" = some false := by decide +kernel
@[simp] theorem kb_is : kitB "int" "str" = some false := by decide +kernel
@[simp] theorem kb_it : kitB "int" "tuple" = some false := by decide +kernel
@[simp] theorem kb_bi : kitB "bool" "int" = some true := by decide +kernel
@[simp] theorem kb_bb : kitB "bool" "bool" = some true := by decide +kernel
@[simp] theorem kb_bs : kitB "bool" "str" = some false := by decide +kernel
@[simp] theorem kb_bt : kitB "bool" "tuple" = some false := by decide +kernel
@[simp] theorem kb_si : kitB "str" "int" = some false := by decide +kernel
@[simp] theorem kb_sb : kitB "str" "bool" = some false := by decide +kernel
@[simp] theorem kb_ss : kitB "str" "str" = some true := by decide +kernel
@[simp] theorem kb_st : kitB "str" "tuple" = some false := by decide +kernel
@[simp] theorem kb_ti : kitB "tuple" "int" = some false := by decide +kernel
@[simp] theorem kb_tb : kitB "tuple" "bool" = some false := by decide +kernel
@[simp] theorem kb_ts : kitB "tuple" "str" = some false := by decide +kernel
@[simp] theorem kb_tt : kitB "tuple" "tuple" = some true := by decide +kernel
@[simp] theorem kb_ni : kitB "NoneType" "int" = some false := by decide +kernel
@[simp] theorem kb_nb : kitB "NoneType" "bool" = some false := by decide +kernel
@[simp] theorem kb_ns : kitB "NoneType" "str" = some false := by decide +kernel
@[simp] theorem kb_nt : kitB "NoneType" "tuple" = some false := by decide +kernel
@[simp] theorem kb_li : kitB "list" "int" = some false := by decide +kernel
@[simp] theorem kb_lb : kitB "list" "bool" = some false := by decide +kernel
@[simp] theorem kb_ls : kitB "list" "str" = some false := by decide +kernel
@[simp] theorem kb_lt : kitB "list" "tuple" = some false := by decide +kernel
theorem m_isi {kt : Kt} {kb : Kb} {v c : MV} {ty : TyN} {r : Bool} (h1 : tyM v st = some ty) (h2 : isiOne kt kb ty c = some r) : isiM kt kb [v, c] st = ret (.bl r) st := by
  show (match tyM v st with | some ty => (match isiOne kt kb ty c with | some b => ret (MV.bl b) st | none => none) | none => none) = _
  rw [h1]
  simp only [h2]
@[simp] theorem isi_bb {kt : Kt} {kb : Kb} {m n : String} : isiOne kt kb (.b m) (.ty n) = kitB m n := rfl
@[simp] theorem isi_ob {kt : Kt} {kb : Kb} {k : Nat} {n : String} : isiOne kt kb (.o k) (.ty n) = kb.lookup (k, n) := rfl
@[simp] theorem isi_c {kt : Kt} {kb : Kb} {ty : TyN} {k : Nat} : isiOne kt kb ty (.cl k) = kt.lookup (ty, k) := rfl
@[simp] theorem m_isiE {kt : Kt} {kb : Kb} {v c : MV} : isiM kt kb [v, c] st = match tyM v st with | some ty => (match isiOne kt kb ty c with | some b => ret (.bl b) st | none => none) | none => none := rfl
@[simp] theorem t_bl : truM (.bl a) st = some a := rfl
@[simp] theorem t_int : truM (.int i) st = some (i != 0) := rfl
@[simp] theorem t_non : truM .non st = some false := rfl
@[simp] theorem t_tup : truM (.tup xs) st = some (!xs.isEmpty) := rfl
@[simp] theorem q_int : eqM (.int i) (.int j) st = ret (.bl (decide (i = j))) st := rfl
@[simp] theorem q_str : eqM (.str x) (.str y) st = ret (.bl (decide (x = y))) st := rfl
@[simp] theorem q_bl : eqM (.bl a) (.bl b) st = ret (.bl (decide (a = b))) st := rfl
@[simp] theorem n_int : neM (.int i) (.int j) st = ret (.bl (!decide (i = j))) st := rfl
@[simp] theorem n_str : neM (.str x) (.str y) st = ret (.bl (!decide (x = y))) st := rfl
@[simp] theorem n_bl : neM (.bl a) (.bl b) st = ret (.bl (!decide (a = b))) st := rfl
@[simp] theorem qi_int {t : Tb} {os : List Nat} : eqI t os (.int i) (.int j) st = ret (.bl (decide (i = j))) st := rfl
@[simp] theorem qi_str {t : Tb} {os : List Nat} : eqI t os (.str x) (.str y) st = ret (.bl (decide (x = y))) st := rfl
@[simp] theorem ni_int {t : Tb} {os : List Nat} : neI t os (.int i) (.int j) st = ret (.bl (!decide (i = j))) st := rfl
@[simp] theorem ni_str {t : Tb} {os : List Nat} : neI t os (.str x) (.str y) st = ret (.bl (!decide (x = y))) st := rfl
@[simp] theorem qi_tup {t : Tb} {os : List Nat} : eqI t os (.tup xs) (.tup ys) st = eqM (.tup xs) (.tup ys) st := rfl
@[simp] theorem ni_tup {t : Tb} {os : List Nat} : neI t os (.tup xs) (.tup ys) st = neM (.tup xs) (.tup ys) st := rfl
@[simp] theorem bools_map {bs : List Bool} : bools (bs.map .bl) = some bs := by
  induction bs with
  | nil => rfl
  | cons b bs ih => show (bools (bs.map .bl)).map _ = _; rw [ih]; rfl
@[simp] theorem ints_map {ns : List Int} : intsM (ns.map .int) = some ns := by
  induction ns with
  | nil => rfl
  | cons b bs ih => show (intsM (bs.map .int)).map _ = _; rw [ih]; rfl
@[simp] theorem anyL_map {bs : List Bool} : anyL (bs.map .bl) st = ret (.bl (bs.any id)) st := by unfold anyL; rw [bools_map]
@[simp] theorem allL_map {bs : List Bool} : allL (bs.map .bl) st = ret (.bl (bs.all id)) st := by unfold allL; rw [bools_map]
@[simp] theorem sumL_map {ns : List Int} : sumL (ns.map .int) st = ret (.int ns.sum) st := by unfold sumL; rw [ints_map]
@[simp] theorem tupleL_is : tupleL xs st = ret (.tup xs) st := rfl
@[simp] theorem lenL_is : lenL xs st = ret (MV.int xs.length) st := rfl
@[simp] theorem of_tup : isOf (.tup xs) st = some (.t xs) := rfl
theorem of_ref {k : Nat} (h : listOf st k = some xs) : isOf (.ref k) st = some (.l k xs.length) := by
  show (listOf st k).map _ = _
  rw [h]
  rfl
@[simp] theorem cnt_en {s : IS} : IM.cnt (.en s) = s.len := rfl
@[simp] theorem cnt_sq {s : IS} : IM.cnt (.sq s) = s.len := rfl
@[simp] theorem cnt_zp {s s' : IS} : IM.cnt (.zp s s') = min s.len s'.len := rfl
@[simp] theorem cnt_rng {lo : Int} {m : Nat} : IM.cnt (.rng lo m) = m := rfl
@[simp] theorem len_t : IS.len (.t xs) = xs.length := rfl
@[simp] theorem len_l {k m : Nat} : IS.len (.l k m) = m := rfl
@[simp] theorem fin_t : IS.fin (.t xs) st = true := rfl
@[simp] theorem fin_en {s : IS} : IM.fin (.en s) st = s.fin st := rfl
@[simp] theorem fin_sq {s : IS} : IM.fin (.sq s) st = s.fin st := rfl
@[simp] theorem fin_zp {s s' : IS} : IM.fin (.zp s s') st = (s.fin st && s'.fin st) := rfl
@[simp] theorem fin_rng {lo : Int} {m : Nat} : IM.fin (.rng lo m) st = true := rfl
theorem fin_l {k : Nat} (h : listOf st k = some xs) : IS.fin (.l k xs.length) st = true := by
  show (match listOf st k with | some ys => decide (ys.length = xs.length) | none => false) = true
  rw [h]
  simp
@[simp] theorem get_t {m : Nat} : IS.get (.t xs) m st = xs[m]? := rfl
theorem get_l {k m : Nat} (h : listOf st k = some xs) : IS.get (.l k xs.length) m st = xs[m]? := by
  show (match listOf st k with | some ys => if ys.length = xs.length then ys[m]? else none | none => none) = _
  rw [h]
  simp
@[simp] theorem get_en {s : IS} {m : Nat} : IM.get (.en s) m st = (s.get m st).map fun x => .tup [.int m, x] := rfl
@[simp] theorem get_sq {s : IS} {m : Nat} : IM.get (.sq s) m st = s.get m st := rfl
theorem get_rng {lo : Int} {m k : Nat} (h : k < m) : IM.get (.rng lo m) k st = some (.int (lo + k)) := if_pos h
theorem start_def {n : Nat} {args : List MV} : start n args = args.map some ++ List.replicate (n - args.length) none := rfl
end
end CS
namespace CS
open PySem L2
mutual
def plain : Nat → MV → Bool
  | _, .non => true
  | _, .bl _ => true
  | _, .int _ => true
  | _, .str x => PyData.strOk x
  | n + 1, .tup xs => plains n xs
  | _, _ => false
def plains : Nat → List MV → Bool
  | _, [] => true
  | n, x :: xs => plain n x && plains n xs
end
mutual
def datM : MV → PyData
  | .bl b => .bool b
  | .int i => .int i
  | .str x => .str x
  | .tup xs => .tuple (datMs xs)
  | _ => .none
def datMs : List MV → List PyData
  | [] => []
  | x :: xs => datM x :: datMs xs
end
@[simp] theorem plain_int {n : Nat} {i : Int} : plain n (.int i) = true := by cases n <;> rfl
@[simp] theorem plain_bl {n : Nat} {i : Bool} : plain n (.bl i) = true := by cases n <;> rfl
@[simp] theorem plain_non {n : Nat} : plain n .non = true := by cases n <;> rfl
@[simp] theorem plain_str {n : Nat} {x : Str} : plain n (.str x) = PyData.strOk x := by cases n <;> rfl
@[simp] theorem plain_tup {n : Nat} {xs : List MV} : plain (n + 1) (.tup xs) = plains n xs := rfl
@[simp] theorem plains_nil {n : Nat} : plains n [] = true := by cases n <;> rfl
@[simp] theorem plains_cons {n : Nat} {x : MV} {xs : List MV} : plains n (x :: xs) = (plain n x && plains n xs) := by cases n <;> rfl
theorem plains_map {α : Type} {f : α → MV} {n : Nat} : ∀ {l : List α}, (∀ a ∈ l, plain n (f a) = true) → plains n (l.map f) = true
  | [], _ => by simp
  | a :: l, h => by
    rw [List.map_cons, plains_cons, h a List.mem_cons_self, plains_map fun b hb => h b (List.mem_cons_of_mem _ hb)]
    rfl
theorem dM_non {st : Sto} {m : Nat} : dataM st m .non = some .none := by cases m <;> simp only [dataM]
theorem dM_bl {st : Sto} {m : Nat} {b : Bool} : dataM st m (.bl b) = some (.bool b) := by cases m <;> simp only [dataM]
theorem dM_int {st : Sto} {m : Nat} {b : Int} : dataM st m (.int b) = some (.int b) := by cases m <;> simp only [dataM]
theorem dM_str {st : Sto} {m : Nat} {b : Str} : dataM st m (.str b) = some (.str b) := by cases m <;> simp only [dataM]
theorem dM_tup {st : Sto} {m : Nat} {xs : List MV} : dataM st (m + 1) (.tup xs) = (dataMs st m xs).map .tuple := by simp only [dataM]
theorem dM_ref {st : Sto} {m i : Nat} {xs : List MV} (h : listOf st i = some xs) : dataM st (m + 1) (.ref i) = (dataMs st m xs).map .list := by simp only [dataM, h]
theorem dM_nil {st : Sto} {m : Nat} : dataMs st m [] = some [] := by cases m <;> simp only [dataMs]
theorem dM_cons {st : Sto} {m : Nat} {x : MV} {xs : List MV} {d : PyData} {ds : List PyData} (h1 : dataM st m x = some d) (h2 : dataMs st (m + 1) xs = some ds) : dataMs st (m + 1) (x :: xs) = some (d :: ds) := by simp only [dataMs, h1, h2]
mutual
theorem plain_data {st : Sto} : ∀ {x : MV} {n m : Nat}, plain n x = true → 2 * n ≤ m → dataM st m x = some (datM x)
  | .non, n, m, _, _ => dM_non
  | .bl b, n, m, _, _ => dM_bl
  | .int i, n, m, _, _ => dM_int
  | .str y, n, m, _, _ => dM_str
  | .tup xs, n + 1, m + 1, h, hm => by
    rw [dM_tup, plains_data (n := n) (by simpa using h) (by omega)]
    rfl
  | .tup xs, n + 1, 0, h, hm => by omega
  | .tup xs, 0, m, h, hm => by cases h
  | .ref i, n, m, h, _ => by cases n <;> cases h
  | .fn i, n, m, h, _ => by cases n <;> cases h
  | .cl i, n, m, h, _ => by cases n <;> cases h
  | .ty i, n, m, h, _ => by cases n <;> cases h
theorem plains_data {st : Sto} : ∀ {xs : List MV} {n m : Nat}, plains n xs = true → 2 * n + 1 ≤ m → dataMs st m xs = some (datMs xs)
  | [], n, m, _, _ => dM_nil
  | x :: xs, n, 0, h, hm => by omega
  | x :: xs, n, m + 1, h, hm => by
    rw [plains_cons, Bool.and_eq_true] at h
    exact dM_cons (plain_data (n := n) h.1 (by omega)) (plains_data (n := n) h.2 hm)
end
mutual
theorem plain_lay : ∀ {x : MV} {n : Nat}, plain n x = true → (datM x).canLay0 = true
  | .non, n, _ => rfl
  | .bl b, n, _ => rfl
  | .int i, n, _ => rfl
  | .str y, n, h => by rw [plain_str] at h; exact h
  | .tup xs, n + 1, h => plains_lay (n := n) (by simpa using h)
  | .tup xs, 0, h => by cases h
  | .ref i, n, h => by cases n <;> cases h
  | .fn i, n, h => by cases n <;> cases h
  | .cl i, n, h => by cases n <;> cases h
  | .ty i, n, h => by cases n <;> cases h
theorem plains_lay : ∀ {xs : List MV} {n : Nat}, plains n xs = true → PyData.canLayAll0 (datMs xs) = true
  | [], n, _ => rfl
  | x :: xs, n, h => by
    rw [plains_cons, Bool.and_eq_true] at h
    show ((datM x).canLay0 && PyData.canLayAll0 (datMs xs)) = true
    rw [plain_lay h.1, plains_lay h.2]
    rfl
end
mutual
theorem plain_depth : ∀ {x : MV} {n : Nat}, plain n x = true → (datM x).depth ≤ n
  | .non, n, _ => Nat.zero_le _
  | .bl b, n, _ => Nat.zero_le _
  | .int i, n, _ => Nat.zero_le _
  | .str y, n, h => Nat.zero_le _
  | .tup xs, n + 1, h => by
    show PyData.depthAll (datMs xs) + 1 ≤ n + 1
    have := plains_depth (xs := xs) (n := n) (by simpa using h)
    omega
  | .tup xs, 0, h => by cases h
  | .ref i, n, h => by cases n <;> cases h
  | .fn i, n, h => by cases n <;> cases h
  | .cl i, n, h => by cases n <;> cases h
  | .ty i, n, h => by cases n <;> cases h
theorem plains_depth : ∀ {xs : List MV} {n : Nat}, plains n xs = true → PyData.depthAll (datMs xs) ≤ n
  | [], n, _ => Nat.zero_le _
  | x :: xs, n, h => by
    rw [plains_cons, Bool.and_eq_true] at h
    show max (datM x).depth (PyData.depthAll (datMs xs)) ≤ n
    have h1 := plain_depth h.1
    have h2 := plains_depth h.2
    omega
end
mutual
theorem plain_nodict : ∀ (x : MV), (datM x).hasDict = false
  | .non => rfl
  | .bl b => rfl
  | .int i => rfl
  | .str y => rfl
  | .tup xs => plains_nodict xs
  | .ref i => rfl
  | .fn i => rfl
  | .cl i => rfl
  | .ty i => rfl
theorem plains_nodict : ∀ (xs : List MV), PyData.hasDictAll (datMs xs) = false
  | [] => rfl
  | x :: xs => by
    show ((datM x).hasDict || PyData.hasDictAll (datMs xs)) = false
    rw [plain_nodict x, plains_nodict xs]
    rfl
end
mutual
def noBl : MV → Bool
  | .bl _ => false
  | .tup xs => noBls xs
  | _ => true
def noBls : List MV → Bool
  | [] => true
  | x :: xs => noBl x && noBls xs
end
@[simp] theorem noBl_int {i : Int} : noBl (.int i) = true := rfl
@[simp] theorem noBl_str {i : Str} : noBl (.str i) = true := rfl
@[simp] theorem noBl_non : noBl .non = true := rfl
@[simp] theorem noBl_tup {xs : List MV} : noBl (.tup xs) = noBls xs := rfl
@[simp] theorem noBls_nil : noBls [] = true := rfl
@[simp] theorem noBls_cons {x : MV} {xs : List MV} : noBls (x :: xs) = (noBl x && noBls xs) := rfl
theorem noBls_map {α : Type} {f : α → MV} : ∀ {l : List α}, (∀ a ∈ l, noBl (f a) = true) → noBls (l.map f) = true
  | [], _ => rfl
  | a :: l, h => by
    rw [List.map_cons, noBls_cons, h a List.mem_cons_self, noBls_map fun b hb => h b (List.mem_cons_of_mem _ hb)]
    rfl
mutual
theorem eqv_eqV : ∀ {x y : MV} {n k : Nat}, plain n x = true → plain k y = true → noBl x = true → noBl y = true → PyData.eqv (datM x) (datM y) = eqV x y
  | .non, y, n, k, hx, hy, bx, by' => by cases y <;> first | rfl | (cases by'; done) | (cases k <;> cases hy)
  | .bl _, y, n, k, hx, hy, bx, by' => by cases bx
  | .int i, y, n, k, hx, hy, bx, by' => by cases y <;> first | rfl | (cases by'; done) | (cases k <;> cases hy)
  | .str i, y, n, k, hx, hy, bx, by' => by cases y <;> first | rfl | (cases by'; done) | (cases k <;> cases hy)
  | .tup xs, y, n, k, hx, hy, bx, by' => by
    cases y with
    | tup ys =>
      cases n with
      | zero => cases hx
      | succ n =>
        cases k with
        | zero => cases hy
        | succ k => exact eqvs_eqVs (n := n) (k := k) (by simpa using hx) (by simpa using hy) bx by'
    | bl b => cases by'
    | _ => first | rfl | (cases k <;> cases hy)
  | .ref _, y, n, k, hx, hy, bx, by' => by cases n <;> cases hx
  | .fn _, y, n, k, hx, hy, bx, by' => by cases n <;> cases hx
  | .cl _, y, n, k, hx, hy, bx, by' => by cases n <;> cases hx
  | .ty _, y, n, k, hx, hy, bx, by' => by cases n <;> cases hx
theorem eqvs_eqVs : ∀ {xs ys : List MV} {n k : Nat}, plains n xs = true → plains k ys = true → noBls xs = true → noBls ys = true → PyData.eqvAll (datMs xs) (datMs ys) = eqVs xs ys
  | [], [], n, k, _, _, _, _ => rfl
  | [], y :: ys, n, k, _, _, _, _ => rfl
  | x :: xs, [], n, k, _, _, _, _ => rfl
  | x :: xs, y :: ys, n, k, hx, hy, bx, by' => by
    rw [plains_cons, Bool.and_eq_true] at hx hy
    rw [noBls_cons, Bool.and_eq_true] at bx by'
    show (PyData.eqv (datM x) (datM y) && PyData.eqvAll (datMs xs) (datMs ys)) = (eqV x y && eqVs xs ys)
    rw [eqv_eqV hx.1 hy.1 bx.1 by'.1, eqvs_eqVs hx.2 hy.2 bx.2 by'.2]
end
theorem shaped_of {x : MV} {n : Nat} (h : plain n x = true) (hn : n ≤ 14) : SeqAt.shaped (datM x) = true := by
  unfold SeqAt.shaped
  have h1 := plain_lay h
  have h2 := plain_depth h
  rw [h1, Bool.true_and]
  exact decide_eq_true (by omega)
theorem eqD_plain {x y : MV} {st : Sto} {n k : Nat} (hx : plain n x = true) (hy : plain k y = true) (bx : noBl x = true) (by' : noBl y = true) (hn : n ≤ 14) (hk : k ≤ 14) : eqD x y st = some (eqV x y) := by
  have key : (match dataM st 30 x, dataM st 30 y with
    | some d, some e => if SeqAt.shaped d && SeqAt.shaped e then some (PyData.eqv d e) else none
    | _, _ => none) = some (eqV x y) := by
    rw [plain_data (m := 30) hx (by omega), plain_data (m := 30) hy (by omega)]
    simp only [shaped_of hx hn, shaped_of hy hk, Bool.and_self, if_true, eqv_eqV hx hy bx by']
  unfold eqD
  split
  · rename_i i j
    show some (decide (i = j)) = some (i == j)
    rw [Bool.beq_eq_decide_eq]
  · rename_i i j
    show some (decide (i = j)) = some (i == j)
    rw [Bool.beq_eq_decide_eq]
  · cases bx
  · rfl
  · rfl
  · rfl
  · exact key
theorem eq_plain {x y : MV} {st : Sto} {n k : Nat} (hx : plain n x = true) (hy : plain k y = true) (bx : noBl x = true) (by' : noBl y = true) (hn : n ≤ 14) (hk : k ≤ 14) : eqM x y st = ret (.bl (eqV x y)) st := by
  unfold eqM
  rw [eqD_plain hx hy bx by' hn hk]
theorem ne_plain {x y : MV} {st : Sto} {n k : Nat} (hx : plain n x = true) (hy : plain k y = true) (bx : noBl x = true) (by' : noBl y = true) (hn : n ≤ 14) (hk : k ≤ 14) : neM x y st = ret (.bl (!eqV x y)) st := by
  unfold neM
  rw [eqD_plain hx hy bx by' hn hk]
theorem data_list {st : Sto} {i : Nat} {xs : List MV} {n m : Nat} (h : listOf st i = some xs) (hx : plains n xs = true) (hm : 2 * n + 2 ≤ m) : dataM st m (.ref i) = some (.list (datMs xs)) := by
  match m with
  | 0 => omega
  | m + 1 =>
    rw [dM_ref h, plains_data (m := m) hx (by omega)]
    rfl
theorem shapeds_of {xs : List MV} {n : Nat} (h : plains n xs = true) (hn : n ≤ 12) : SeqAt.shaped (.list (datMs xs)) = true := by
  unfold SeqAt.shaped
  have h1 : PyData.canLay0 (.list (datMs xs)) = true := plains_lay h
  have h2 := plains_depth h
  rw [h1, Bool.true_and]
  refine decide_eq_true ?_
  show PyData.depthAll (datMs xs) + 1 ≤ 64
  omega
theorem eqD_lists {st : Sto} {i j : Nat} {xs ys : List MV} {n k : Nat} (h : listOf st i = some xs) (h' : listOf st j = some ys) (hx : plains n xs = true) (hy : plains k ys = true) (bx : noBls xs = true) (by' : noBls ys = true) (hn : n ≤ 12) (hk : k ≤ 12) :
    eqD (.ref i) (.ref j) st = some (eqVs xs ys) := by
  show (match dataM st 30 (.ref i), dataM st 30 (.ref j) with
    | some d, some e => if SeqAt.shaped d && SeqAt.shaped e then some (PyData.eqv d e) else none
    | _, _ => none) = _
  rw [data_list h hx (by omega), data_list h' hy (by omega)]
  simp only [shapeds_of hx hn, shapeds_of hy hk, Bool.and_self, if_true]
  exact congrArg some (eqvs_eqVs hx hy bx by')
theorem eqV_iff {x y : MV} : eqV x y = true ↔ x = y := ⟨eqV_of, fun h => h ▸ eqV_refl x⟩
theorem eqVs_iff {x y : List MV} : eqVs x y = true ↔ x = y := ⟨eqVs_of, fun h => h ▸ eqVs_refl x⟩
@[simp] theorem eqV_self {x : MV} : eqV x x = true := eqV_refl x
@[simp] theorem eqVs_self {x : List MV} : eqVs x x = true := eqVs_refl x
theorem eqV_ne {x y : MV} (h : x ≠ y) : eqV x y = false := by
  cases q : eqV x y with
  | false => rfl
  | true => exact absurd (eqV_of q) h
mutual
def showM : MV → Bool
  | .int i => decide (i.natAbs.log2 < 1920)
  | .tup xs => showMs xs
  | _ => true
def showMs : List MV → Bool
  | [] => true
  | x :: xs => showM x && showMs xs
end
@[simp] theorem showMs_nil : showMs [] = true := rfl
@[simp] theorem showMs_cons {x : MV} {xs : List MV} : showMs (x :: xs) = (showM x && showMs xs) := rfl
@[simp] theorem showM_int {i : Int} : showM (.int i) = decide (i.natAbs.log2 < 1920) := rfl
@[simp] theorem showM_str {i : Str} : showM (.str i) = true := rfl
@[simp] theorem showM_bl {i : Bool} : showM (.bl i) = true := rfl
@[simp] theorem showM_non : showM .non = true := rfl
@[simp] theorem showM_tup {xs : List MV} : showM (.tup xs) = showMs xs := rfl
theorem showMs_map {α : Type} {f : α → MV} : ∀ {l : List α}, (∀ a ∈ l, showM (f a) = true) → showMs (l.map f) = true
  | [], _ => rfl
  | a :: l, h => by
    rw [List.map_cons, showMs_cons, h a List.mem_cons_self, showMs_map fun b hb => h b (List.mem_cons_of_mem _ hb)]
    rfl
mutual
theorem plain_show : ∀ {x : MV} {n : Nat}, plain n x = true → showM x = true → (datM x).showable = true ∧ (datM x).leavesShort 1925 = true
  | .non, n, _, _ => ⟨rfl, rfl⟩
  | .bl b, n, _, _ => ⟨rfl, rfl⟩
  | .int i, n, _, h => by
    have h : i.natAbs.log2 < 1920 := of_decide_eq_true h
    refine ⟨decide_eq_true h, decide_eq_true ?_⟩
    show (Str.ofString (toString i)).length ≤ 1925
    have := PyProof.Rows.int_text_len_1921 h
    omega
  | .str y, n, h, _ => by
    rw [plain_str] at h
    refine ⟨rfl, ?_⟩
    show (y.cps.toList.all fun c => decide (c < 16 ^ 8)) = true
    unfold PyData.strOk at h
    rw [← Array.all_toList] at h
    rw [List.all_eq_true] at h ⊢
    intro c hc
    have := of_decide_eq_true (h c hc)
    exact decide_eq_true (by omega)
  | .tup xs, n + 1, h, hs => plains_show (n := n) (by simpa using h) hs
  | .tup xs, 0, h, _ => by cases h
  | .ref i, n, h, _ => by cases n <;> cases h
  | .fn i, n, h, _ => by cases n <;> cases h
  | .cl i, n, h, _ => by cases n <;> cases h
  | .ty i, n, h, _ => by cases n <;> cases h
theorem plains_show : ∀ {xs : List MV} {n : Nat}, plains n xs = true → showMs xs = true → PyData.showableAll (datMs xs) = true ∧ PyData.leavesShortAll 1925 (datMs xs) = true
  | [], n, _, _ => ⟨rfl, rfl⟩
  | x :: xs, n, h, hs => by
    rw [plains_cons, Bool.and_eq_true] at h
    rw [showMs_cons, Bool.and_eq_true] at hs
    have h1 := plain_show h.1 hs.1
    have h2 := plains_show h.2 hs.2
    refine ⟨?_, ?_⟩
    · show ((datM x).showable && PyData.showableAll (datMs xs)) = true
      rw [h1.1, h2.1]; rfl
    · show ((datM x).leavesShort 1925 && PyData.leavesShortAll 1925 (datMs xs)) = true
      rw [h1.2, h2.2]; rfl
end
def wtM (x : MV) : Nat := (datM x).weight
def wtMs (xs : List MV) : Nat := PyData.weightAll (datMs xs)
@[simp] theorem wtMs_nil : wtMs [] = 0 := rfl
@[simp] theorem wtMs_cons {x : MV} {xs : List MV} : wtMs (x :: xs) = wtM x + 1 + wtMs xs := rfl
@[simp] theorem wtM_tup {xs : List MV} : wtM (.tup xs) = wtMs xs := rfl
@[simp] theorem wtM_non : wtM .non = 0 := rfl
@[simp] theorem wtM_bl {b : Bool} : wtM (.bl b) = 0 := rfl
@[simp] theorem wtM_str {x : Str} : wtM (.str x) = x.length := rfl
theorem wtM_int {i : Int} {k : Nat} (h : i.natAbs < 2 ^ k) : wtM (.int i) ≤ k := by
  show (if i == 0 then 0 else i.natAbs.log2 + 1) ≤ k
  split
  · exact Nat.zero_le _
  · rename_i z
    have z : i ≠ 0 := by simpa using z
    have := (Nat.log2_lt (n := i.natAbs) (k := k) (by omega)).mpr h
    omega
theorem wtMs_map {α : Type} {f : α → MV} {B : Nat} : ∀ {l : List α}, (∀ a ∈ l, wtM (f a) ≤ B) → wtMs (l.map f) ≤ (B + 1) * l.length
  | [], _ => Nat.zero_le _
  | a :: l, h => by
    rw [List.map_cons, wtMs_cons, List.length_cons, Nat.mul_add]
    have h1 := h a List.mem_cons_self
    have h2 := wtMs_map (l := l) fun b hb => h b (List.mem_cons_of_mem _ hb)
    omega
theorem fits_of {d : PyData} (h1 : d.leavesShort 1925 = true) (h2 : d.weight ≤ 8000) : d.shown.length ≤ sizeLine := by
  have h := PyData.shown_le 1925 (by decide) d h1
  rw [sizeLine_eq]
  omega
theorem repr_list {t : Tb} {st : Sto} {i : Nat} {xs : List MV} {n : Nat} (h : listOf st i = some xs) (hx : plains n xs = true) (hs : showMs xs = true) (hn : n ≤ 25) (hw : wtMs xs ≤ 8000) :
    reprI t [.ref i] st = ret (.str (PyData.shown (.list (datMs xs)))) st := by
  show (match ownG t (.ref i) st with
    | some g => bndP (g [.ref i] st) asStr fun n st1 => ret (.str n) st1
    | none => (match reprD (.ref i) st with | some z => ret (MV.str z) st | none => none)) = _
  rw [own_lst h]
  have e : reprD (.ref i) st = some (PyData.shown (.list (datMs xs))) := by
    show (match dataM st 60 (.ref i) with | some d => shownD d | none => none) = _
    rw [data_list h hx (by omega)]
    have s := plains_show hx hs
    show shownD (.list (datMs xs)) = _
    unfold shownD
    have c1 : PyData.showable (.list (datMs xs)) = true := s.1
    have c2 : PyData.hasDict (.list (datMs xs)) = false := plains_nodict xs
    have c3 : PyData.depth (.list (datMs xs)) ≤ 60 := by
      show PyData.depthAll (datMs xs) + 1 ≤ 60
      have := plains_depth hx
      omega
    have c4 : (PyData.shown (.list (datMs xs))).length ≤ sizeLine := fits_of s.2 hw
    simp only [c1, c2, c3, c4, Bool.not_false, Bool.and_self, decide_true, if_true]
  simp only [e]
end CS
namespace Kk01
open PySem PySem.Spec PyProof.Rows L2 CS
def top (i : Nat) : Stmt := PySem.Challenge.pw_cabshares_k01_rides_made.main.body.getD i (.Pass ⟨0, 0, 0, 0⟩)
abbrev F_is_integer : Nat := 0
abbrev F_is_between : Nat := 1
abbrev F_check_costs : Nat := 2
abbrev F_is_rider : Nat := 3
abbrev F_check_riders : Nat := 4
abbrev F_aboard_at : Nat := 5
abbrev F_is_crowded : Nat := 6
abbrev F_Ride___init__ : Nat := 7
abbrev F_Ride_aboard : Nat := 8
abbrev F_Ride_ranked : Nat := 9
abbrev F_Ride___len__ : Nat := 10
abbrev F_Ride___eq__ : Nat := 11
abbrev F_Ride___repr__ : Nat := 12
abbrev F_check_stretch : Nat := 13
abbrev F__law_jug : Nat := 14
abbrev F__law_drop : Nat := 15
abbrev F__law_one : Nat := 16
abbrev F__law_crowd : Nat := 17
abbrev F__law_trip : Nat := 18
abbrev F__law_right : Nat := 19
abbrev F_law : Nat := 20
abbrev C_InputError : Nat := 0
abbrev C_SizeError : Nat := 1
abbrev C_InvalidStretch : Nat := 2
abbrev C_InvalidCosts : Nat := 3
abbrev C_InvalidRiders : Nat := 4
abbrev C_TooMany : Nat := 5
abbrev C_Ride : Nat := 6
abbrev dt_is_integer : DefT := ⟨"is_integer", "is_integer", top 14, ["value"], ["value"]⟩
abbrev dt_is_between : DefT := ⟨"is_between", "is_between", top 15, ["value", "low", "high"], ["value", "low", "high"]⟩
abbrev dt_check_costs : DefT := ⟨"check_costs", "check_costs", top 17, ["value"], ["value", "index", "cost"]⟩
abbrev dt_is_rider : DefT := ⟨"is_rider", "is_rider", top 18, ["value", "stretches"], ["value", "stretches"]⟩
abbrev dt_check_riders : DefT := ⟨"check_riders", "check_riders", top 19, ["value", "stretches"], ["value", "stretches", "index", "rider"]⟩
abbrev dt_aboard_at : DefT := ⟨"aboard_at", "aboard_at", top 20, ["riders", "stretch"], ["riders", "stretch", "place", "rider"]⟩
abbrev dt_is_crowded : DefT := ⟨"is_crowded", "is_crowded", top 21, ["stretches", "riders"], ["stretches", "riders", "stretch"]⟩
abbrev dt_Ride___init__ : DefT := ⟨"__init__", "Ride.__init__", inClass (top 22) 0, ["self", "costs", "riders"], ["self", "costs", "riders"]⟩
abbrev dt_Ride_aboard : DefT := ⟨"aboard", "Ride.aboard", inClass (top 22) 1, ["self", "stretch"], ["self", "stretch"]⟩
abbrev dt_Ride_ranked : DefT := ⟨"ranked", "Ride.ranked", inClass (top 22) 2, ["self", "order", "stretch"], ["self", "order", "stretch"]⟩
abbrev dt_Ride___len__ : DefT := ⟨"__len__", "Ride.__len__", inClass (top 22) 3, ["self"], ["self"]⟩
abbrev dt_Ride___eq__ : DefT := ⟨"__eq__", "Ride.__eq__", inClass (top 22) 4, ["self", "other"], ["self", "other"]⟩
abbrev dt_Ride___repr__ : DefT := ⟨"__repr__", "Ride.__repr__", inClass (top 22) 5, ["self"], ["self"]⟩
abbrev dt_check_stretch : DefT := ⟨"check_stretch", "check_stretch", top 23, ["value", "ride"], ["value", "ride"]⟩
abbrev dt__law_jug : DefT := ⟨"_law_jug", "_law_jug", top 25, ["_law_script", "_law_k"], ["_law_script", "_law_k", "_law_own", "_law_mixed", "_law_entry"]⟩
abbrev dt__law_drop : DefT := ⟨"_law_drop", "_law_drop", top 26, ["_law_jug_here", "_law_many"], ["_law_jug_here", "_law_many", "_law_digit"]⟩
abbrev dt__law_one : DefT := ⟨"_law_one", "_law_one", top 27, ["_law_jug_here", "_law_things"], ["_law_jug_here", "_law_things"]⟩
abbrev dt__law_crowd : DefT := ⟨"_law_crowd", "_law_crowd", top 28, ["_law_folk", "_law_t"], ["_law_folk", "_law_t", "_law_k"]⟩
abbrev dt__law_trip : DefT := ⟨"_law_trip", "_law_trip", top 29, ["_law_jug_here", "_law_most"], ["_law_jug_here", "_law_most", "_law_many", "_law_prices", "_law_folk", "_law_k", "_law_into", "_law_new", "_law_t"]⟩
abbrev dt__law_right : DefT := ⟨"_law_right", "_law_right", top 30, ["_law_jug_here"], ["_law_jug_here", "_law_again", "_law_prices", "_law_folk", "_law_made", "_law_seen_here", "_law_text_here", "_law_near", "_law_late"]⟩
abbrev dt_law : DefT := ⟨"law", "law", top 31, ["_law_script"], ["_law_script", "_law_k"]⟩
abbrev DT : List DefT := [dt_is_integer, dt_is_between, dt_check_costs, dt_is_rider, dt_check_riders, dt_aboard_at, dt_is_crowded, dt_Ride___init__, dt_Ride_aboard, dt_Ride_ranked, dt_Ride___len__, dt_Ride___eq__, dt_Ride___repr__, dt_check_stretch, dt__law_jug, dt__law_drop, dt__law_one, dt__law_crowd, dt__law_trip, dt__law_right, dt_law]
abbrev A_costs : List Nat := [C_Ride]
abbrev A_riders : List Nat := [C_Ride]
abbrev A_told : List Nat := [C_Ride]
abbrev sp_len : Tl := [(C_Ride, F_Ride___len__)]
abbrev sp_repr : Tl := [(C_Ride, F_Ride___repr__)]
abbrev sp_eq : Tl := [(C_Ride, F_Ride___eq__)]
abbrev os_eq : List Nat := [C_Ride]
abbrev kt_ : Kt := [((.b "NoneType", C_Ride), false), ((.b "bool", C_Ride), false), ((.b "int", C_Ride), false), ((.b "str", C_Ride), false), ((.b "tuple", C_Ride), false), ((.b "list", C_Ride), false), ((.o C_Ride, C_Ride), true)]
abbrev kb_ : Kb := [((C_Ride, "tuple"), false), ((C_Ride, "int"), false), ((C_Ride, "bool"), false), ((C_Ride, "str"), false)]
abbrev sh_Ride___init___1_riders_costs : CS.Shape := ⟨1, ["riders", "costs"], [.pos 0, .kw 1, .kw 0]⟩
def D_is_integer (S : Nat → List MV → Sto → R MV) : DS :=
  sSq (sRt (eAnd (eCall (isiM kt_ kb_) (aCons (eVar 0) (aCons (eC (.ty "int")) (aNil)))) (eNot (eCall (isiM kt_ kb_) (aCons (eVar 0) (aCons (eC (.ty "bool")) (aNil)))))))
    (sNx)
def D_is_between (S : Nat → List MV → Sto → R MV) : DS :=
  sSq (sRt (eAnd (eCall (S F_is_integer) (aCons (eVar 0) (aNil))) (eCh leM leM (eVar 1) (eVar 0) (eVar 2))))
    (sNx)
def D_check_costs (S : Nat → List MV → Sto → R MV) : DS :=
  sSq (sIf (bOr (bNot (bTru (eCall (isiM kt_ kb_) (aCons (eVar 0) (aCons (eC (.ty "tuple")) (aNil)))))) (bNot (asB (eCh leM leM (eC (.int 1)) (eCall (lenI (tbOf sp_len S)) (aCons (eVar 0) (aNil))) (eC (.int 12)))))) (sSq (sNo)
    (sNx)) (sNx))
    (sSq (sFor (iEn (aCons (eVar 0) (aNil))) (gTp (gCn (gNm 1) (gCn (gNm 2) (gNl))) 2) (sSq (sIf (bNot (bTru (eCall (S F_is_between) (aCons (eVar 2) (aCons (eC (.int 0)) (aCons (eC (.int 1000000)) (aNil))))))) (sSq (sNo)
    (sNx)) (sNx))
    (sNx)))
    (sNx))
def D_is_rider (S : Nat → List MV → Sto → R MV) : DS :=
  sSq (sIf (bOr (bNot (bTru (eCall (isiM kt_ kb_) (aCons (eVar 0) (aCons (eC (.ty "tuple")) (aNil)))))) (bOr (asB (eOp (neI (tbOf sp_eq S) os_eq) (eCall (lenI (tbOf sp_len S)) (aCons (eVar 0) (aNil))) (eC (.int 3)))) (bNot (bTru (eCall (S F_is_between) (aCons (eOp ixM (eVar 0) (eC (.int 0))) (aCons (eC (.int 0)) (aCons (eOp subM (eVar 1) (eC (.int 1))) (aNil))))))))) (sSq (sRt (eC (.bl false)))
    (sNx)) (sNx))
    (sSq (sRt (eAnd (eCall (S F_is_between) (aCons (eOp ixM (eVar 0) (eC (.int 1))) (aCons (eOp addM (eOp ixM (eVar 0) (eC (.int 0))) (eC (.int 1))) (aCons (eVar 1) (aNil))))) (eCall (S F_is_between) (aCons (eOp ixM (eVar 0) (eC (.int 2))) (aCons (eC (.int 0)) (aCons (eC (.int 9)) (aNil)))))))
    (sNx))
def D_check_riders (S : Nat → List MV → Sto → R MV) : DS :=
  sSq (sIf (bOr (bNot (bTru (eCall (isiM kt_ kb_) (aCons (eVar 0) (aCons (eC (.ty "tuple")) (aNil)))))) (bNot (asB (eCh leM leM (eC (.int 1)) (eCall (lenI (tbOf sp_len S)) (aCons (eVar 0) (aNil))) (eC (.int 6)))))) (sSq (sNo)
    (sNx)) (sNx))
    (sSq (sFor (iEn (aCons (eVar 0) (aNil))) (gTp (gCn (gNm 2) (gCn (gNm 3) (gNl))) 2) (sSq (sIf (bNot (bTru (eCall (S F_is_rider) (aCons (eVar 3) (aCons (eVar 1) (aNil)))))) (sSq (sNo)
    (sNx)) (sNx))
    (sNx)))
    (sNx))
def D_aboard_at (S : Nat → List MV → Sto → R MV) : DS :=
  sSq (sRt (eFu tupleL (eLc (iEn (aCons (eVar 0) (aNil))) (.tup [2, 3]) (asB (eCh leM ltM (eOp ixM (eVar 3) (eC (.int 0))) (eVar 1) (eOp ixM (eVar 3) (eC (.int 1))))) (eVar 2) [2, 3])))
    (sNx)
def D_is_crowded (S : Nat → List MV → Sto → R MV) : DS :=
  sSq (sRt (eFu anyL (eLc (iR1 (aCons (eVar 0) (aNil))) (.one 2) (bYes) (eOp gtM (eCall (lenI (tbOf sp_len S)) (aCons (eCall (S F_aboard_at) (aCons (eVar 1) (aCons (eVar 2) (aNil)))) (aNil))) (eC (.int 4))) [2])))
    (sNx)
def D_Ride___init__ (S : Nat → List MV → Sto → R MV) : DS :=
  sSq (sEx (eCall (S F_check_costs) (aCons (eVar 1) (aNil))))
    (sSq (sEx (eCall (S F_check_riders) (aCons (eVar 2) (aCons (eCall (lenI (tbOf sp_len S)) (aCons (eVar 1) (aNil))) (aNil)))))
    (sSq (sIf (bTru (eCall (S F_is_crowded) (aCons (eCall (lenI (tbOf sp_len S)) (aCons (eVar 1) (aNil))) (aCons (eVar 2) (aNil))))) (sSq (sNo)
    (sNx)) (sNx))
    (sSq (sFl A_costs "costs" (eVar 0) (eVar 1))
    (sSq (sFl A_riders "riders" (eVar 0) (eVar 2))
    (sSq (sFl A_told "told" (eVar 0) (eTup (aCons (eVar 1) (aCons (eVar 2) (aNil)))))
    (sNx))))))
def D_Ride_aboard (S : Nat → List MV → Sto → R MV) : DS :=
  sSq (sEx (eCall (S F_check_stretch) (aCons (eVar 1) (aCons (eVar 0) (aNil)))))
    (sSq (sRt (eCall (S F_aboard_at) (aCons (eFld A_riders "riders" (eVar 0)) (aCons (eVar 1) (aNil)))))
    (sNx))
def D_Ride_ranked (S : Nat → List MV → Sto → R MV) : DS :=
  sSq (sNo)
    (sNx)
def D_Ride___len__ (S : Nat → List MV → Sto → R MV) : DS :=
  sSq (sRt (eCall (lenI (tbOf sp_len S)) (aCons (eFld A_riders "riders" (eVar 0)) (aNil))))
    (sNx)
def D_Ride___eq__ (S : Nat → List MV → Sto → R MV) : DS :=
  sSq (sRt (eAnd (eCall (isiM kt_ kb_) (aCons (eVar 1) (aCons (eC (.cl C_Ride)) (aNil)))) (eOp (eqI (tbOf sp_eq S) os_eq) (eFld A_told "told" (eVar 0)) (eFld A_told "told" (eVar 1)))))
    (sNx)
def D_Ride___repr__ (S : Nat → List MV → Sto → R MV) : DS :=
  sSq (sRt (eJn [eC (.str "Ride("), eFm (eCall (lenI (tbOf sp_len S)) (aCons (eFld A_costs "costs" (eVar 0)) (aNil))), eC (.str " stretches, "), eFm (eCall (lenI (tbOf sp_len S)) (aCons (eFld A_riders "riders" (eVar 0)) (aNil))), eC (.str " riders)")]))
    (sNx)
def D_check_stretch (S : Nat → List MV → Sto → R MV) : DS :=
  sSq (sIf (bNot (bTru (eCall (S F_is_between) (aCons (eVar 0) (aCons (eC (.int 0)) (aCons (eOp subM (eCall (lenI (tbOf sp_len S)) (aCons (eFld A_costs "costs" (eVar 1)) (aNil))) (eC (.int 1))) (aNil))))))) (sSq (sNo)
    (sNx)) (sNx))
    (sNx)
def D__law_jug (S : Nat → List MV → Sto → R MV) : DS :=
  sSq (sAs (eIf (asB (eOp ltM (eVar 1) (eCall (lenI (tbOf sp_len S)) (aCons (eVar 0) (aNil))))) (eCall intM (aCons (eOp ixM (eVar 0) (eVar 1)) (aNil))) (eOp addM (eOp mulM (eC (.int 53)) (eVar 1)) (eC (.int 31)))) (gNm 2))
    (sSq (sAs (eOp addM (eC (.int 20011)) (eOp mulM (eC (.int 1321)) (eVar 1))) (gNm 3))
    (sSq (sFor (iSq (eSl (eVar 0) (oNone) (oSome (eC (.int 12))))) (gNm 4) (sSq (sAs (eOp modM (eCall intM (aCons (eOp addM (eOp mulM (eVar 3) (eC (.int 40037))) (eOp modM (eCall intM (aCons (eVar 4) (aNil))) (eC (.int 1999999751)))) (aNil))) (eC (.int 1999999751))) (gNm 3))
    (sNx)))
    (sSq (sRt (eLst (aCons (eOp modM (eCall intM (aCons (eOp addM (eOp mulM (eVar 3) (eC (.int 19))) (eOp modM (eVar 2) (eC (.int 1999999751)))) (aNil))) (eC (.int 1999999751))) (aCons (eIf (bOr (asB (eOp ltM (eVar 2) (eC (.int 0)))) (asB (eOp geM (eVar 2) (eOp powM (eC (.int 10)) (eC (.int 13)))))) (eCall absM (aCons (eVar 2) (aNil))) (eC (.int 0))) (aCons (eC (.int 3)) (aNil))))))
    (sNx))))
def D__law_drop (S : Nat → List MV → Sto → R MV) : DS :=
  sSq (sAs (eOp addM (eOp ixM (eVar 0) (eC (.int 2))) (eC (.int 2))) (gSb (eVar 0) (eC (.int 2))))
    (sSq (sIf (asB (eOp gtM (eOp ixM (eVar 0) (eC (.int 1))) (eC (.int 0)))) (sSq (sAs (eCall divmodM (aCons (eCall intM (aCons (eOp ixM (eVar 0) (eC (.int 1))) (aNil))) (aCons (eVar 1) (aNil)))) (gTp (gCn (gSb (eVar 0) (eC (.int 1))) (gCn (gNm 2) (gNl))) 2))
    (sSq (sRt (eVar 2))
    (sNx))) (sNx))
    (sSq (sAs (eOp modM (eCall intM (aCons (eOp addM (eOp addM (eOp mulM (eOp ixM (eVar 0) (eC (.int 0))) (eC (.int 48017))) (eOp mulM (eOp ixM (eVar 0) (eC (.int 2))) (eC (.int 80021)))) (eOp mulM (eOp divM (eOp ixM (eVar 0) (eC (.int 0))) (eC (.int 5003))) (eC (.int 41)))) (aNil))) (eC (.int 1999999751))) (gSb (eVar 0) (eC (.int 0))))
    (sSq (sRt (eOp modM (eCall intM (aCons (eOp divM (eOp ixM (eVar 0) (eC (.int 0))) (eC (.int 281))) (aNil))) (eVar 1)))
    (sNx))))
def D__law_one (S : Nat → List MV → Sto → R MV) : DS :=
  sSq (sRt (eOp ixM (eVar 1) (eCall (S F__law_drop) (aCons (eVar 0) (aCons (eCall (lenI (tbOf sp_len S)) (aCons (eVar 1) (aNil))) (aNil))))))
    (sNx)
def D__law_crowd (S : Nat → List MV → Sto → R MV) : DS :=
  sSq (sRt (eNew (eLc (iR1 (aCons (eCall (lenI (tbOf sp_len S)) (aCons (eVar 0) (aNil))) (aNil))) (.one 2) (asB (eCh leM ltM (eOp ixM (eOp ixM (eVar 0) (eVar 2)) (eC (.int 0))) (eVar 1) (eOp ixM (eOp ixM (eVar 0) (eVar 2)) (eC (.int 1))))) (eVar 2) [2])))
    (sNx)
def D__law_trip (S : Nat → List MV → Sto → R MV) : DS :=
  sSq (sAs (eOp addM (eC (.int 1)) (eCall (S F__law_drop) (aCons (eVar 0) (aCons (eVar 1) (aNil))))) (gNm 2))
    (sSq (sLc 3 (eLc (iR1 (aCons (eVar 2) (aNil))) (.one 8) (bYes) (eCall (S F__law_one) (aCons (eVar 0) (aCons (eLst (aCons (eC (.int 0)) (aCons (eC (.int 1)) (aCons (eC (.int 6)) (aCons (eC (.int 10)) (aCons (eC (.int 12)) (aCons (eOp addM (eC (.int 1)) (eCall (S F__law_drop) (aCons (eVar 0) (aCons (eC (.int 40)) (aNil))))) (aNil)))))))) (aNil)))) [8]))
    (sSq (sAs (eLst (aNil)) (gNm 4))
    (sSq (sFor (iR1 (aCons (eOp addM (eC (.int 1)) (eCall (S F__law_drop) (aCons (eVar 0) (aCons (eC (.int 6)) (aNil))))) (aNil))) (gNm 5) (sSq (sAs (eCall (S F__law_drop) (aCons (eVar 0) (aCons (eVar 2) (aNil)))) (gNm 6))
    (sSq (sAs (eOp addM (eVar 4) (eLst (aCons (eTup (aCons (eVar 6) (aCons (eOp addM (eOp addM (eVar 6) (eC (.int 1))) (eCall (S F__law_drop) (aCons (eVar 0) (aCons (eOp subM (eVar 2) (eVar 6)) (aNil))))) (aCons (eCall (S F__law_drop) (aCons (eVar 0) (aCons (eC (.int 4)) (aNil)))) (aNil))))) (aNil)))) (gNm 7))
    (sSq (sIf (bTru (eFu allL (eLc (iR1 (aCons (eVar 2) (aNil))) (.one 8) (bYes) (eOp leM (eCall (lenI (tbOf sp_len S)) (aCons (eCall (S F__law_crowd) (aCons (eVar 7) (aCons (eVar 8) (aNil)))) (aNil))) (eC (.int 4))) [8]))) (sSq (sAs (eVar 7) (gNm 4))
    (sNx)) (sNx))
    (sNx)))))
    (sSq (sRt (eTup (aCons (eCall tupleM (aCons (eVar 3) (aNil))) (aCons (eCall tupleM (aCons (eVar 4) (aNil))) (aNil)))))
    (sNx)))))
def D__law_right (S : Nat → List MV → Sto → R MV) : DS :=
  sSq (sFor (iR1 (aCons (eC (.int 6)) (aNil))) (gNm 1) (sSq (sAs (eCall (S F__law_one) (aCons (eVar 0) (aCons (eLst (aCons (eCall (S F__law_trip) (aCons (eVar 0) (aCons (eC (.int 12)) (aNil)))) (aCons (eTup (aCons (eOp mulM (eTup (aCons (eOp powM (eC (.int 10)) (eC (.int 6))) (aNil))) (eC (.int 12))) (aCons (eOp mulM (eTup (aCons (eTup (aCons (eC (.int 0)) (aCons (eC (.int 12)) (aCons (eC (.int 9)) (aNil))))) (aNil))) (eC (.int 4))) (aNil)))) (aNil)))) (aNil)))) (gTp (gCn (gNm 2) (gCn (gNm 3) (gNl))) 2))
    (sSq (sAs (eCallK (fun xs zs st => mkM (fun ys st => S F_Ride___init__ (arrG .non sh_Ride___init___1_riders_costs ys zs []) st) C_Ride xs st) aNil (aCons (eVar 3) (aCons (eVar 2) (aNil)))) (gNm 4))
    (sSq (sAs (eLst (aCons (eFld A_costs "costs" (eVar 4)) (aCons (eFld A_riders "riders" (eVar 4)) (aCons (eFld A_told "told" (eVar 4)) (aCons (eCall (lenI (tbOf sp_len S)) (aCons (eVar 4) (aNil))) (aCons (eCall (reprI (tbOf sp_repr S)) (aCons (eVar 4) (aNil))) (aCons (eCall (boolI (tbOf sp_len S)) (aCons (eVar 4) (aNil))) (aNil)))))))) (gNm 5))
    (sSq (sAs (eOp addM (eOp addM (eOp addM (eOp addM (eC (.str "Ride(")) (eCall strM (aCons (eCall (lenI (tbOf sp_len S)) (aCons (eVar 2) (aNil))) (aNil)))) (eC (.str " stretches, "))) (eCall strM (aCons (eCall (lenI (tbOf sp_len S)) (aCons (eVar 3) (aNil))) (aNil)))) (eC (.str " riders)"))) (gNm 6))
    (sSq (sIf (asB (eOp (neI (tbOf sp_eq S) os_eq) (eCall (reprI (tbOf sp_repr S)) (aCons (eVar 5) (aNil))) (eCall (reprI (tbOf sp_repr S)) (aCons (eLst (aCons (eVar 2) (aCons (eVar 3) (aCons (eTup (aCons (eVar 2) (aCons (eVar 3) (aNil)))) (aCons (eCall (lenI (tbOf sp_len S)) (aCons (eVar 3) (aNil))) (aCons (eVar 6) (aCons (eC (.bl true)) (aNil)))))))) (aNil))))) (sSq (sRt (eC (.bl false)))
    (sNx)) (sNx))
    (sSq (sIf (bOr (asB (eOp (neI (tbOf sp_eq S) os_eq) (eVar 4) (eCall (mkM (S F_Ride___init__) C_Ride) (aCons (eVar 2) (aCons (eVar 3) (aNil)))))) (bOr (asB (eOp (eqI (tbOf sp_eq S) os_eq) (eVar 4) (eTup (aCons (eVar 2) (aCons (eVar 3) (aNil)))))) (bNot (asB (eOp (neI (tbOf sp_eq S) os_eq) (eVar 4) (eVar 2)))))) (sSq (sRt (eC (.bl false)))
    (sNx)) (sNx))
    (sSq (sAs (eOp addM (eTup (aCons (eIf (asB (eOp ltM (eOp ixM (eVar 2) (eC (.int 0))) (eOp powM (eC (.int 10)) (eC (.int 6))))) (eOp addM (eOp ixM (eVar 2) (eC (.int 0))) (eC (.int 1))) (eC (.int 0))) (aNil))) (eSl (eVar 2) (oSome (eC (.int 1))) (oNone))) (gNm 7))
    (sSq (sAs (eOp addM (eSl (eVar 3) (oNone) (oSome (eUn negM (eC (.int 1))))) (eTup (aCons (eTup (aCons (eOp ixM (eOp ixM (eVar 3) (eUn negM (eC (.int 1)))) (eC (.int 0))) (aCons (eOp ixM (eOp ixM (eVar 3) (eUn negM (eC (.int 1)))) (eC (.int 1))) (aCons (eOp modM (eCall intM (aCons (eOp addM (eOp ixM (eOp ixM (eVar 3) (eUn negM (eC (.int 1)))) (eC (.int 2))) (eC (.int 1))) (aNil))) (eC (.int 10))) (aNil))))) (aNil)))) (gNm 8))
    (sSq (sIf (bOr (asB (eOp (eqI (tbOf sp_eq S) os_eq) (eVar 4) (eCall (mkM (S F_Ride___init__) C_Ride) (aCons (eVar 7) (aCons (eVar 3) (aNil)))))) (bOr (asB (eOp (eqI (tbOf sp_eq S) os_eq) (eVar 4) (eCall (mkM (S F_Ride___init__) C_Ride) (aCons (eVar 2) (aCons (eVar 8) (aNil)))))) (asB (eOp (neI (tbOf sp_eq S) os_eq) (eFld A_riders "riders" (eCall (mkM (S F_Ride___init__) C_Ride) (aCons (eVar 7) (aCons (eVar 3) (aNil))))) (eVar 3))))) (sSq (sRt (eC (.bl false)))
    (sNx)) (sNx))
    (sNx)))))))))))
    (sSq (sRt (eC (.bl true)))
    (sNx))
def D_law (S : Nat → List MV → Sto → R MV) : DS :=
  sSq (sRt (eFu allL (eLc (iR1 (aCons (eCall maxM (aCons (eC (.int 2)) (aCons (eCall minM (aCons (eCall (lenI (tbOf sp_len S)) (aCons (eVar 0) (aNil))) (aCons (eC (.int 5)) (aNil)))) (aNil)))) (aNil))) (.one 1) (bYes) (eCall (S F__law_right) (aCons (eCall (S F__law_jug) (aCons (eVar 0) (aCons (eVar 1) (aNil)))) (aNil))) [1])))
    (sNx)
def den (j : Nat) (S : Nat → List MV → Sto → R MV) : DS := ([D_is_integer, D_is_between, D_check_costs, D_is_rider, D_check_riders, D_aboard_at, D_is_crowded, D_Ride___init__, D_Ride_aboard, D_Ride_ranked, D_Ride___len__, D_Ride___eq__, D_Ride___repr__, D_check_stretch, D__law_jug, D__law_drop, D__law_one, D__law_crowd, D__law_trip, D__law_right, D_law] : List ((Nat → List MV → Sto → R MV) → DS)).getD j (fun _ => sNo) S
abbrev sem (k j : Nat) : List MV → Sto → R MV := semL DT den k j
theorem at_is_integer (k : Nat) : sem (k + 1) F_is_integer = defM 1 (D_is_integer (sem k)) := sem_at (d := dt_is_integer) rfl
theorem at_is_between (k : Nat) : sem (k + 1) F_is_between = defM 3 (D_is_between (sem k)) := sem_at (d := dt_is_between) rfl
theorem at_check_costs (k : Nat) : sem (k + 1) F_check_costs = defM 3 (D_check_costs (sem k)) := sem_at (d := dt_check_costs) rfl
theorem at_is_rider (k : Nat) : sem (k + 1) F_is_rider = defM 2 (D_is_rider (sem k)) := sem_at (d := dt_is_rider) rfl
theorem at_check_riders (k : Nat) : sem (k + 1) F_check_riders = defM 4 (D_check_riders (sem k)) := sem_at (d := dt_check_riders) rfl
theorem at_aboard_at (k : Nat) : sem (k + 1) F_aboard_at = defM 4 (D_aboard_at (sem k)) := sem_at (d := dt_aboard_at) rfl
theorem at_is_crowded (k : Nat) : sem (k + 1) F_is_crowded = defM 3 (D_is_crowded (sem k)) := sem_at (d := dt_is_crowded) rfl
theorem at_Ride___init__ (k : Nat) : sem (k + 1) F_Ride___init__ = defM 3 (D_Ride___init__ (sem k)) := sem_at (d := dt_Ride___init__) rfl
theorem at_Ride_aboard (k : Nat) : sem (k + 1) F_Ride_aboard = defM 2 (D_Ride_aboard (sem k)) := sem_at (d := dt_Ride_aboard) rfl
theorem at_Ride_ranked (k : Nat) : sem (k + 1) F_Ride_ranked = defM 3 (D_Ride_ranked (sem k)) := sem_at (d := dt_Ride_ranked) rfl
theorem at_Ride___len__ (k : Nat) : sem (k + 1) F_Ride___len__ = defM 1 (D_Ride___len__ (sem k)) := sem_at (d := dt_Ride___len__) rfl
theorem at_Ride___eq__ (k : Nat) : sem (k + 1) F_Ride___eq__ = defM 2 (D_Ride___eq__ (sem k)) := sem_at (d := dt_Ride___eq__) rfl
theorem at_Ride___repr__ (k : Nat) : sem (k + 1) F_Ride___repr__ = defM 1 (D_Ride___repr__ (sem k)) := sem_at (d := dt_Ride___repr__) rfl
theorem at_check_stretch (k : Nat) : sem (k + 1) F_check_stretch = defM 2 (D_check_stretch (sem k)) := sem_at (d := dt_check_stretch) rfl
theorem at__law_jug (k : Nat) : sem (k + 1) F__law_jug = defM 5 (D__law_jug (sem k)) := sem_at (d := dt__law_jug) rfl
theorem at__law_drop (k : Nat) : sem (k + 1) F__law_drop = defM 3 (D__law_drop (sem k)) := sem_at (d := dt__law_drop) rfl
theorem at__law_one (k : Nat) : sem (k + 1) F__law_one = defM 2 (D__law_one (sem k)) := sem_at (d := dt__law_one) rfl
theorem at__law_crowd (k : Nat) : sem (k + 1) F__law_crowd = defM 3 (D__law_crowd (sem k)) := sem_at (d := dt__law_crowd) rfl
theorem at__law_trip (k : Nat) : sem (k + 1) F__law_trip = defM 9 (D__law_trip (sem k)) := sem_at (d := dt__law_trip) rfl
theorem at__law_right (k : Nat) : sem (k + 1) F__law_right = defM 9 (D__law_right (sem k)) := sem_at (d := dt__law_right) rfl
theorem at_law (k : Nat) : sem (k + 1) F_law = defM 2 (D_law (sem k)) := sem_at (d := dt_law) rfl
end Kk01
namespace Kk01
open PySem PySem.Spec L2 CS
theorem is_integer_int (k : Nat) (i : Int) (st : Sto) : sem (k + 1) F_is_integer [.int i] st = ret (.bl true) st := by
  rw [at_is_integer]
  refine def_eq rfl ?_
  simp [D_is_integer, start_def]
theorem is_between_int (k : Nat) (v lo hi : Int) (st : Sto) : sem (k + 2) F_is_between [.int v, .int lo, .int hi] st = ret (.bl (decide (lo ≤ v) && decide (v ≤ hi))) st := by
  rw [at_is_between]
  refine def_eq rfl ?_
  simp [D_is_between, start_def, is_integer_int]
  grind
abbrev Rdr := Int × Int × Int
def riderV (r : Rdr) : MV := .tup [.int r.1, .int r.2.1, .int r.2.2]
def costsV (cs : List Int) : MV := .tup (cs.map .int)
def ridersV (rs : List Rdr) : MV := .tup (rs.map riderV)
def riderOk (n : Int) (r : Rdr) : Bool := decide (0 ≤ r.1) && decide (r.1 ≤ n - 1) && decide (r.1 + 1 ≤ r.2.1) && decide (r.2.1 ≤ n) && decide (0 ≤ r.2.2) && decide (r.2.2 ≤ 9)
theorem is_rider_ok (k : Nat) (r : Rdr) (n : Int) (st : Sto) : sem (k + 3) F_is_rider [riderV r, .int n] st = ret (.bl (riderOk n r)) st := by
  rw [at_is_rider]
  refine def_eq rfl ?_
  simp [D_is_rider, start_def, is_between_int, riderV, riderOk]
  grind
theorem check_costs_ok (k : Nat) (cs : List Int) (st : Sto) (h1 : 1 ≤ cs.length) (h2 : cs.length ≤ 12) (h3 : ∀ c ∈ cs, 0 ≤ c ∧ c ≤ 1000000) : sem (k + 3) F_check_costs [costsV cs] st = ret .non st := by
  rw [at_check_costs]
  refine def_eqN ?_
  simp [D_check_costs, start_def, costsV]
  refine ⟨by omega, by omega, ?_⟩
  have : cs.length = IM.cnt (.en (.t (cs.map MV.int))) := by simp
  rw [this]
  refine wp_for (fun i ρ st' => st' = st ∧ ∃ a b, ρ = [some (.tup (cs.map .int)), a, b]) ⟨rfl, none, none, rfl⟩ (fun i ρ st' hi h => ?_) (goes_tup (goes_cons goes_name (goes_cons goes_name goes_nil))) (fun ρ st' h => ?_)
  · obtain ⟨rfl, a, b, rfl⟩ := h
    have hi : i < cs.length := by simpa using hi
    have hc := h3 cs[i] (List.getElem_mem hi)
    simp [hi, is_between_int, hc]
  · obtain ⟨rfl, a, b, rfl⟩ := h
    simp
theorem check_riders_ok (k : Nat) (rs : List Rdr) (n : Int) (st : Sto) (h1 : 1 ≤ rs.length) (h2 : rs.length ≤ 6) (h3 : ∀ r ∈ rs, riderOk n r = true) : sem (k + 4) F_check_riders [ridersV rs, .int n] st = ret .non st := by
  rw [at_check_riders]
  refine def_eqN ?_
  simp [D_check_riders, start_def, ridersV]
  refine ⟨by omega, by omega, ?_⟩
  have : rs.length = IM.cnt (.en (.t (rs.map riderV))) := by simp
  rw [this]
  refine wp_for (fun i ρ st' => st' = st ∧ ∃ a b, ρ = [some (.tup (rs.map riderV)), some (.int n), a, b]) ⟨rfl, none, none, rfl⟩ (fun i ρ st' hi h => ?_) (goes_tup (goes_cons goes_name (goes_cons goes_name goes_nil))) (fun ρ st' h => ?_)
  · obtain ⟨rfl, a, b, rfl⟩ := h
    have hi : i < rs.length := by simpa using hi
    have hc := h3 rs[i] (List.getElem_mem hi)
    simp [hi, is_rider_ok, hc]
  · obtain ⟨rfl, a, b, rfl⟩ := h
    simp
theorem lowVs_snoc {n : Nat} {x : MV} : ∀ {xs : List MV}, lowVs n xs = true → lowV n x = true → lowVs n (xs ++ [x]) = true
  | [], _, h => by show (lowV n x && true) = true; rw [h]; rfl
  | y :: ys, h, h2 => by
    have h : (lowV n y && lowVs n ys) = true := h
    rw [Bool.and_eq_true] at h
    show (lowV n y && lowVs n (ys ++ [x])) = true
    rw [h.1, lowVs_snoc h.2 h2]
    rfl
def isAb (t : Int) (r : Rdr) : Bool := decide (r.1 ≤ t) && decide (t < r.2.1)
def crowd (rs : List Rdr) (t : Int) : Nat := (rs.filter (isAb t)).length
theorem crowd_take {rs : List Rdr} {t : Int} {i : Nat} (h : i < rs.length) : crowd (rs.take (i + 1)) t = crowd (rs.take i) t + if isAb t rs[i] then 1 else 0 := by
  unfold crowd
  rw [List.take_succ_eq_append_getElem h, List.filter_append, List.length_append]
  congr 1
  cases q : isAb t rs[i] <;> simp [q]
theorem aboard_at_ok (k : Nat) (rs : List Rdr) (t : Int) (st : Sto) (h : rs.length ≤ 100) : ∃ xs, sem (k + 1) F_aboard_at [ridersV rs, .int t] st = ret (.tup xs) st ∧ xs.length = crowd rs t ∧ lowVs st.length xs = true := by
  have key : Wp (sem (k + 1) F_aboard_at [ridersV rs, .int t] st) fun v st' => (∃ xs, v = .tup xs ∧ xs.length = crowd rs t ∧ lowVs st.length xs = true) ∧ st' = st := by
    rw [at_aboard_at, wp_def]
    simp [D_aboard_at, start_def, ridersV, wipeM]
    refine ⟨by rw [sizeLine_eq]; omega, ?_⟩
    have : rs.length = IM.cnt (.en (.t (rs.map riderV))) := by simp
    rw [this]
    refine wp_lc (fun i acc st' => st' = st ∧ acc.length = crowd (rs.take i) t ∧ lowVs st.length acc = true) ⟨rfl, by simp [crowd], rfl⟩ (fun i acc st' hi h => ?_) (fun acc st' h => ?_)
    · obtain ⟨rfl, h1, h2⟩ := h
      have hi : i < rs.length := by simpa using hi
      have hg : IM.get (.en (.t (rs.map riderV))) i st' = some (.tup [.int i, riderV rs[i]]) := by simp [hi]
      refine ⟨_, _, hg, rfl, ?_⟩
      have hc := crowd_take (t := t) hi
      have hl := lowVs_snoc (n := st'.length) (x := .int i) h2 rfl
      by_cases q1 : rs[i].1 ≤ t <;> by_cases q2 : t < rs[i].2.1 <;> simp [riderV, q1, q2, h1, h2, hc, isAb, hl]
    · obtain ⟨rfl, h1, h2⟩ := h
      rw [← this, List.take_length] at h1
      have hw : lowV st'.length (.tup acc) = true := by unfold lowV; exact h2
      simp [h1, h2, tupleL, hw, gc_same]
  obtain ⟨v, st', e, ⟨xs, rfl, h1, h2⟩, rfl⟩ := key.get
  exact ⟨xs, e, h1, h2⟩
end Kk01
namespace Kk01
open PySem PySem.Spec L2 CS
theorem is_crowded_no (k : Nat) (rs : List Rdr) (n : Int) (st : Sto) (h : rs.length ≤ 100) (h0 : 0 ≤ n) (hn : n ≤ 1000) (hc : ∀ t : Int, 0 ≤ t → t < n → crowd rs t ≤ 4) : sem (k + 2) F_is_crowded [.int n, ridersV rs] st = ret (.bl false) st := by
  rw [at_is_crowded]
  refine def_eq rfl ?_
  simp [D_is_crowded, start_def, wipeM]
  refine ⟨by omega, by rw [sizeLine_eq]; omega, ?_⟩
  refine wp_lcN rfl (fun i acc st' => st' = st ∧ acc = (List.replicate i false).map .bl) ⟨rfl, rfl⟩ (fun i acc st' hi hI => ?_) (fun acc st' hI => ?_)
  · obtain ⟨rfl, rfl⟩ := hI
    have hi : i < n.toNat := hi
    refine ⟨_, _, get_rng hi, rfl, ?_⟩
    obtain ⟨xs, e, hl, _⟩ := aboard_at_ok k rs i st' h
    have := hc i (by omega) (by omega)
    have h4 : ¬ 4 < xs.length := by omega
    have h5 : ¬ (4 : Int) < xs.length := by omega
    simp [e, h4, h5, List.replicate_succ']
  · obtain ⟨rfl, rfl⟩ := hI
    rw [anyL_map]
    simp
def fieldsV (cs : List Int) (rs : List Rdr) : List (Str × MV) := [("costs", costsV cs), ("riders", ridersV rs), ("told", .tup [costsV cs, ridersV rs])]
structure RideOk (cs : List Int) (rs : List Rdr) : Prop where
  c1 : 1 ≤ cs.length
  c2 : cs.length ≤ 12
  c3 : ∀ c ∈ cs, 0 ≤ c ∧ c ≤ 1000000
  r1 : 1 ≤ rs.length
  r2 : rs.length ≤ 6
  r3 : ∀ r ∈ rs, riderOk cs.length r = true
  cr : ∀ t : Int, 0 ≤ t → t < cs.length → crowd rs t ≤ 4
@[simp] theorem len_costs {t : Tb} {cs : List Int} {st : Sto} : lenI t [costsV cs] st = ret (.int cs.length) st := by simp [costsV]
@[simp] theorem len_riders {t : Tb} {rs : List Rdr} {st : Sto} : lenI t [ridersV rs] st = ret (.int rs.length) st := by simp [ridersV]
theorem n1 : ¬ (("costs" : Str) = "riders") := by decide
theorem n2 : ¬ (("costs" : Str) = "told") := by decide
theorem n3 : ¬ (("riders" : Str) = "told") := by decide
theorem put3 (a b c : MV) : putM "told" c (putM "riders" b (putM "costs" a [])) = ([("costs", a), ("riders", b), ("told", c)] : List (Str × MV)) := by
  simp [putM, n1, n2, n3]
theorem init_ok (k i : Nat) (cs : List Int) (rs : List Rdr) (st : Sto) (h : RideOk cs rs) (hi : st[i]? = some (.ins C_Ride [])) : sem (k + 5) F_Ride___init__ [.ref i, costsV cs, ridersV rs] st = ret .non (st.set i (.ins C_Ride (fieldsV cs rs))) := by
  have key : Wp (sem (k + 5) F_Ride___init__ [.ref i, costsV cs, ridersV rs] st) fun v st' => v = .non ∧ st' = st.set i (.ins C_Ride (fieldsV cs rs)) := by
    have e2 : sem (k + 4) F_check_costs [costsV cs] st = ret .non st := check_costs_ok (k + 1) cs st h.c1 h.c2 h.c3
    have e3 : sem (k + 4) F_check_riders [ridersV rs, .int cs.length] st = ret .non st := check_riders_ok k rs cs.length st h.r1 h.r2 h.r3
    have e4 : sem (k + 4) F_is_crowded [.int cs.length, ridersV rs] st = ret (.bl false) st := is_crowded_no (k + 2) rs cs.length st (by have := h.r2; omega) (by omega) (by have := h.c2; omega) h.cr
    rw [at_Ride___init__, wp_def]
    simp only [D_Ride___init__, start_def]
    have hg := fun o' => set_get (o' := o') hi
    have p1 : ∀ a b : MV, putM "riders" b (putM "costs" a []) = ([("costs", a), ("riders", b)] : List (Str × MV)) := by simp [putM, n1]
    have p2 : ∀ a : MV, putM "costs" a [] = ([("costs", a)] : List (Str × MV)) := by simp [putM]
    simp [e2, e3, e4, hi, hg, p1, p2, putM, n1, n2, n3, fieldsV, C_Ride]
    exact Nat.le_trans (by decide) (show 2 ≤ sizeLine by decide)
  obtain ⟨v, st', e, rfl, rfl⟩ := key.get
  exact e
end Kk01
namespace Kk01
open PySem PySem.Spec L2 CS
theorem make_ok (k : Nat) (cs : List Int) (rs : List Rdr) (st : Sto) (h : RideOk cs rs) : mkM (sem (k + 5) F_Ride___init__) C_Ride [costsV cs, ridersV rs] st = ret (.ref st.length) (st ++ [.ins C_Ride (fieldsV cs rs)]) := by
  unfold mkM
  rw [init_ok k st.length cs rs _ h (by simp)]
  show ret (MV.ref st.length) ((st ++ [MO.ins C_Ride []]).set st.length (.ins C_Ride (fieldsV cs rs))) = _
  rw [List.set_append_right _ _ (Nat.le_refl _)]
  simp
theorem makeK_ok (k : Nat) (cs : List Int) (rs : List Rdr) (st : Sto) (h : RideOk cs rs) : mkM (fun ys st => sem (k + 5) F_Ride___init__ (arrG .non sh_Ride___init___1_riders_costs ys [ridersV rs, costsV cs] []) st) C_Ride [] st = ret (.ref st.length) (st ++ [.ins C_Ride (fieldsV cs rs)]) := make_ok k cs rs st h
def IsRide (st : Sto) (i : Nat) (cs : List Int) (rs : List Rdr) : Prop := st[i]? = some (.ins C_Ride (fieldsV cs rs))
theorem b1 : (("riders" : Str) == ("costs" : Str)) = false := by decide
theorem b2 : (("told" : Str) == ("costs" : Str)) = false := by decide
theorem b3 : (("told" : Str) == ("riders" : Str)) = false := by decide
theorem f_costs (cs : List Int) (rs : List Rdr) : List.lookup ("costs" : Str) (fieldsV cs rs) = some (costsV cs) := by simp [fieldsV, List.lookup]
theorem f_riders (cs : List Int) (rs : List Rdr) : List.lookup ("riders" : Str) (fieldsV cs rs) = some (ridersV rs) := by simp [fieldsV, List.lookup, b1]
theorem f_told (cs : List Int) (rs : List Rdr) : List.lookup ("told" : Str) (fieldsV cs rs) = some (MV.tup [costsV cs, ridersV rs]) := by simp [fieldsV, List.lookup, b2, b3]
theorem len_ok (k i : Nat) (cs : List Int) (rs : List Rdr) (st : Sto) (h : IsRide st i cs rs) : sem (k + 1) F_Ride___len__ [.ref i] st = ret (.int rs.length) st := by
  rw [at_Ride___len__]
  refine def_eq rfl ?_
  unfold IsRide at h
  simp [D_Ride___len__, start_def, h, f_riders]
theorem plain_costs {cs : List Int} {n : Nat} : plain (n + 1) (costsV cs) = true := by unfold costsV; rw [plain_tup]; exact plains_map fun _ _ => plain_int
theorem plain_rider {r : Rdr} {n : Nat} : plain (n + 1) (riderV r) = true := by simp [riderV]
theorem plain_riders {rs : List Rdr} {n : Nat} : plain (n + 2) (ridersV rs) = true := by unfold ridersV; rw [plain_tup]; exact plains_map fun _ _ => plain_rider
theorem noBl_costs {cs : List Int} : noBl (costsV cs) = true := by unfold costsV; exact noBls_map fun _ _ => rfl
theorem noBl_riders {rs : List Rdr} : noBl (ridersV rs) = true := by unfold ridersV; exact noBls_map fun r _ => rfl
abbrev toldV (cs : List Int) (rs : List Rdr) : MV := .tup [costsV cs, ridersV rs]
theorem eqI_told (t : Tb) (os : List Nat) (cs cs' : List Int) (rs rs' : List Rdr) (st : Sto) : eqI t os (toldV cs rs) (toldV cs' rs') st = ret (.bl (eqV (toldV cs rs) (toldV cs' rs'))) st := by
  show eqM (toldV cs rs) (toldV cs' rs') st = _
  exact eq_plain (n := 3) (k := 3) (by simp [plain_costs, plain_riders]) (by simp [plain_costs, plain_riders]) (by simp [noBl_costs, noBl_riders]) (by simp [noBl_costs, noBl_riders]) (by decide) (by decide)
theorem eq_ride (k i j : Nat) (cs cs' : List Int) (rs rs' : List Rdr) (st : Sto) (h : IsRide st i cs rs) (h' : IsRide st j cs' rs') : sem (k + 1) F_Ride___eq__ [.ref i, .ref j] st = ret (.bl (eqV (toldV cs rs) (toldV cs' rs'))) st := by
  rw [at_Ride___eq__]
  refine def_eq rfl ?_
  unfold IsRide at h h'
  have hk : kt_.lookup (TyN.o C_Ride, C_Ride) = some true := by decide
  have e := fun t => eqI_told t os_eq cs cs' rs rs' st
  simp [D_Ride___eq__, start_def, h, h', f_told, ty_ins h', hk, e]
theorem eq_other (k i : Nat) (v : MV) (cs : List Int) (rs : List Rdr) (st : Sto) (n : String) (h : IsRide st i cs rs) (ht : tyM v st = some (.b n)) (hk : kt_.lookup (TyN.b n, C_Ride) = some false) : sem (k + 1) F_Ride___eq__ [.ref i, v] st = ret (.bl false) st := by
  rw [at_Ride___eq__]
  refine def_eq rfl ?_
  simp [D_Ride___eq__, start_def, ht, hk]
theorem own_ride {t : Tb} {i : Nat} {cs : List Int} {rs : List Rdr} {st : Sto} (h : IsRide st i cs rs) : ownG t (.ref i) st = t.lookup C_Ride := own_ins h
theorem opEq_ride (k i j : Nat) (cs cs' : List Int) (rs rs' : List Rdr) (st : Sto) (h : IsRide st i cs rs) (h' : IsRide st j cs' rs') : eqI (tbOf sp_eq (sem (k + 1))) os_eq (.ref i) (.ref j) st = ret (.bl (eqV (toldV cs rs) (toldV cs' rs'))) st := by
  unfold eqI
  rw [own_ride h]
  have ok : okY os_eq (.ref j) st = true := by unfold okY; rw [ty_ins h']; rfl
  show (if okY os_eq (.ref j) st then bndP (sem (k + 1) F_Ride___eq__ [.ref i, .ref j] st) asBl _ else none) = _
  rw [if_pos ok, eq_ride k i j cs cs' rs rs' st h h']
  rfl
theorem opNe_ride (k i j : Nat) (cs cs' : List Int) (rs rs' : List Rdr) (st : Sto) (h : IsRide st i cs rs) (h' : IsRide st j cs' rs') : neI (tbOf sp_eq (sem (k + 1))) os_eq (.ref i) (.ref j) st = ret (.bl (!eqV (toldV cs rs) (toldV cs' rs'))) st := by
  unfold neI
  rw [own_ride h]
  have ok : okY os_eq (.ref j) st = true := by unfold okY; rw [ty_ins h']; rfl
  show (if okY os_eq (.ref j) st then bndP (sem (k + 1) F_Ride___eq__ [.ref i, .ref j] st) asBl _ else none) = _
  rw [if_pos ok, eq_ride k i j cs cs' rs rs' st h h']
  rfl
theorem opEq_tup (k i : Nat) (xs : List MV) (cs : List Int) (rs : List Rdr) (st : Sto) (h : IsRide st i cs rs) : eqI (tbOf sp_eq (sem (k + 1))) os_eq (.ref i) (.tup xs) st = ret (.bl false) st := by
  unfold eqI
  rw [own_ride h]
  show (if okY os_eq (.tup xs) st then bndP (sem (k + 1) F_Ride___eq__ [.ref i, .tup xs] st) asBl _ else none) = _
  rw [if_pos (show okY os_eq (.tup xs) st = true from rfl), eq_other k i (.tup xs) cs rs st "tuple" h rfl (by decide)]
  rfl
theorem opNe_tup (k i : Nat) (xs : List MV) (cs : List Int) (rs : List Rdr) (st : Sto) (h : IsRide st i cs rs) : neI (tbOf sp_eq (sem (k + 1))) os_eq (.ref i) (.tup xs) st = ret (.bl true) st := by
  unfold neI
  rw [own_ride h]
  show (if okY os_eq (.tup xs) st then bndP (sem (k + 1) F_Ride___eq__ [.ref i, .tup xs] st) asBl _ else none) = _
  rw [if_pos (show okY os_eq (.tup xs) st = true from rfl), eq_other k i (.tup xs) cs rs st "tuple" h rfl (by decide)]
  rfl
theorem asLen_ok {n : Int} (h0 : 0 ≤ n) (h1 : n < 2 ^ 63) : asLen (.int n) = some n := by
  unfold asLen
  simp only
  rw [if_pos ⟨h0, h1⟩]
theorem bndP_some {α β : Type} {a : α} {st : Sto} {f : α → Option β} {g : β → Sto → R MV} {y : β} (h : f a = some y) : bndP (ret a st) f g = g y st := by
  unfold bndP bndN CS.ret
  simp only [h]
theorem lenI_ride (k i : Nat) (cs : List Int) (rs : List Rdr) (st : Sto) (h : IsRide st i cs rs) (hr : rs.length ≤ 6) : lenI (tbOf sp_len (sem (k + 1))) [.ref i] st = ret (.int rs.length) st := by
  show (match ownG (tbOf sp_len (sem (k + 1))) (.ref i) st with
    | some g => bndP (g [.ref i] st) asLen fun n st1 => ret (MV.int n) st1
    | none => lenM [.ref i] st) = _
  rw [own_ride h]
  show bndP (sem (k + 1) F_Ride___len__ [.ref i] st) asLen (fun n st1 => ret (MV.int n) st1) = _
  rw [len_ok k i cs rs st h]
  have := asLen_ok (n := (rs.length : Int)) (by omega) (by omega)
  rw [bndP_some this]
theorem boolI_ride (k i : Nat) (cs : List Int) (rs : List Rdr) (st : Sto) (h : IsRide st i cs rs) (h1 : 1 ≤ rs.length) (hr : rs.length ≤ 6) : boolI (tbOf sp_len (sem (k + 1))) [.ref i] st = ret (.bl true) st := by
  show (match ownG (tbOf sp_len (sem (k + 1))) (.ref i) st with
    | some g => bndP (g [.ref i] st) asLen fun n st1 => ret (MV.bl (n != 0)) st1
    | none => _) = _
  rw [own_ride h]
  show bndP (sem (k + 1) F_Ride___len__ [.ref i] st) asLen (fun n st1 => ret (MV.bl (n != 0)) st1) = _
  rw [len_ok k i cs rs st h]
  have := asLen_ok (n := (rs.length : Int)) (by omega) (by omega)
  rw [bndP_some this]
  have : ((rs.length : Int) != 0) = true := by simp; intro h; rw [h] at h1; simp at h1
  simp only [this]
end Kk01
namespace Kk01
open PySem PySem.Spec L2 CS
theorem ix3 {a b c : MV} {st : Sto} {j : Nat} (h : st[j]? = some (.lst [a, b, c])) : ixM (.ref j) (.int 0) st = ret a st ∧ ixM (.ref j) (.int 1) st = ret b st ∧ ixM (.ref j) (.int 2) st = ret c st :=
  ⟨m_ixR (list_at h) (at_int (by decide) rfl), m_ixR (list_at h) (at_int (by decide) rfl), m_ixR (list_at h) (at_int (by decide) rfl)⟩
theorem set3 {a b c v : MV} {st : Sto} {j : Nat} (h : st[j]? = some (.lst [a, b, c])) :
    setM (.ref j) (.int 0) v st = some (st.set j (.lst [v, b, c])) ∧ setM (.ref j) (.int 1) v st = some (st.set j (.lst [a, v, c])) ∧ setM (.ref j) (.int 2) v st = some (st.set j (.lst [a, b, v])) := by
  simp [setM, h, ixN]
theorem drop_ok (k j : Nat) (m : Int) (st : Sto) (h : JugAt j st) (h0 : 0 < m) (h1 : m < 1000000) : Wp (sem (k + 1) F__law_drop [.ref j, .int m] st) fun v st' => (∃ d : Int, v = .int d ∧ 0 ≤ d ∧ d < m) ∧ Jg j st st' := by
  have hl := h.lt
  obtain ⟨a, b, c, e⟩ := h
  rw [at__law_drop, wp_def]
  have i1 := ix3 e
  have s1 := fun v => set3 (v := v) e
  have e2 : (st.set j (.lst [.int a, .int b, .int (c + 2)]))[j]? = some (.lst [.int a, .int b, .int (c + 2)]) := set_get e
  have i2 := ix3 e2
  have s2 := fun v => set3 (v := v) e2
  simp [D__law_drop, start_def, i1.2.2, s1, i2.2.1]
  split
  · rename_i hb
    simp [i2.2.1, m_divmod ⟨h0, (by omega : m < 1073741824)⟩, s2, lowV]
    exact ⟨⟨Int.emod_nonneg _ (by omega), Int.emod_lt_of_pos _ h0⟩, Jg.set hl _ _ _⟩
  · rename_i hb
    have u1 : ∀ (x : Int) (st : Sto), mulM (.int x) (.int 48017) st = ret (.int (x * 48017)) st := fun _ _ => m_mulR (by decide)
    have u2 : ∀ (x : Int) (st : Sto), mulM (.int x) (.int 80021) st = ret (.int (x * 80021)) st := fun _ _ => m_mulR (by decide)
    have u3 : ∀ (x : Int) (st : Sto), mulM (.int x) (.int 41) st = ret (.int (x * 41)) st := fun _ _ => m_mulR (by decide)
    have u4 : ∀ (x : Int) (st : Sto), divM (.int x) (.int 5003) st = ret (.int (x / 5003)) st := fun _ _ => m_div (by decide) (by decide)
    have u5 : ∀ (x : Int) (st : Sto), divM (.int x) (.int 281) st = ret (.int (x / 281)) st := fun _ _ => m_div (by decide) (by decide)
    have u6 : ∀ (x : Int) (st : Sto), modM (.int x) (.int 1999999751) st = ret (.int (x % 1999999751)) st := fun _ _ => m_mod (by decide)
    have e3 : ∀ x : Int, (st.set j (.lst [.int x, .int b, .int (c + 2)]))[j]? = some (.lst [.int x, .int b, .int (c + 2)]) := fun x => set_get e
    simp [i2.1, i2.2.2, u1, u2, u3, u4, u5, u6, s2, (ix3 (e3 _)).1, m_mod h0, lowV]
    exact ⟨⟨Int.emod_nonneg _ (by omega), Int.emod_lt_of_pos _ h0⟩, Jg.set hl _ _ _⟩
theorem _root_.CS.Jg.list {j i : Nat} {st st1 : Sto} {xs : List MV} (g : Jg j st st1) (hx : CS.listOf st i = some xs) (hne : i ≠ j) : CS.listOf st1 i = some xs := by
  unfold CS.listOf at hx ⊢
  have hi : i < st.length := by
    cases q : st[i]? with
    | none => rw [q] at hx; cases hx
    | some o => exact (List.getElem?_eq_some_iff.mp q).1
  rw [g.at_ i hi hne]
  exact hx
theorem one_ok (k j i : Nat) (xs : List MV) (st : Sto) (h : JugAt j st) (hx : CS.listOf st i = some xs) (hne : i ≠ j) (h0 : 0 < xs.length) (h1 : xs.length < 1000000) : Wp (sem (k + 2) F__law_one [.ref j, .ref i] st) fun v st' => v ∈ xs ∧ Jg j st st' := by
  have hl := h.lt
  rw [at__law_one, wp_def]
  simp [D__law_one, start_def, m_lenIR hx]
  refine Wp.quiet (drop_ok k j xs.length st h (by omega) (by omega)) ?_
  rintro v st1 ⟨⟨d, rfl, d0, d1⟩, g⟩
  have hx1 := g.list hx hne
  have hd : d.toNat < xs.length := by omega
  have e : atI xs d = some xs[d.toNat] := at_int d0 (by simp [hd])
  simp [m_ixR hx1 e]
  exact g.gcI hl
theorem m_slR {lo hi : Option Int} {i : Nat} {xs : List MV} {st : Sto} (h : CS.listOf st i = some xs) : slM (.ref i) lo hi st = ret (MV.ref st.length) (st ++ [.lst (cutM xs lo hi)]) := by
  unfold slM
  simp only [h]
theorem cut_map {α : Type} {f : α → MV} {l : List α} {lo hi : Option Int} : ∃ l' : List α, cutM (l.map f) lo hi = l'.map f ∧ ∀ a ∈ l', a ∈ l := by
  refine ⟨(l.drop (HT.sIx l.length 0 lo)).take (HT.sIx l.length l.length hi - HT.sIx l.length 0 lo), ?_, fun a h => List.mem_of_mem_drop (List.mem_of_mem_take h)⟩
  unfold cutM
  rw [List.length_map, List.map_take, List.map_drop]
theorem jug_tail (st : Sto) (o : MO) (a b : Int) : JugAt (st.length + 1) (st ++ [o, .lst [.int a, .int b, .int 3]]) ∧ ∀ i, i < st.length → (st ++ [o, MO.lst [.int a, .int b, .int 3]])[i]? = st[i]? := by
  refine ⟨⟨a, b, 3, ?_⟩, fun i hi => List.getElem?_append_left hi⟩
  rw [List.getElem?_append_right (by omega)]
  simp
theorem jug_ok (k i n : Nat) (ns : List Int) (st : Sto) (h : CS.listOf st i = some (ns.map .int)) : Wp (sem (k + 1) F__law_jug [.ref i, .int n] st) fun v st' => ∃ j, v = .ref j ∧ JugAt j st' ∧ st.length ≤ j ∧ st.length ≤ st'.length ∧ ∀ i, i < st.length → st'[i]? = st[i]? := by
  rw [at__law_jug, wp_def]
  simp only [D__law_jug, s_sq, s_as]
  have own : Wp (eIf (asB (eOp ltM (eVar 1) (eCall (lenI (tbOf sp_len (sem k))) (aCons (eVar 0) aNil)))) (eCall intM (aCons (eOp ixM (eVar 0) (eVar 1)) aNil)) (eOp addM (eOp mulM (eC (.int 53)) (eVar 1)) (eC (.int 31))) (CS.start 5 [.ref i, .int n]) st) fun v st' => (∃ z : Int, v = .int z) ∧ st' = st := by
    simp [start_def, m_lenIR h]
    split
    · rename_i hn
      have e : atI (ns.map MV.int) (n : Int) = some (.int ns[n]) := at_nat (by simp [hn])
      simp [m_ixR h e]
    · simp [m_mulL]
  refine Wp.quiet own ?_
  rintro v st1 ⟨⟨z, rfl⟩, rfl⟩
  obtain ⟨l, hl, _⟩ := cut_map (f := MV.int) (l := ns) (lo := none) (hi := some 12)
  have hL : CS.listOf (st1 ++ [.lst (l.map MV.int)]) st1.length = some (l.map .int) := list_at (by simp)
  have hof : isOf (.ref st1.length) (st1 ++ [.lst (l.map MV.int)]) = some (.l st1.length (l.map MV.int).length) := of_ref hL
  have u1 : ∀ (x : Int) (st : Sto), mulM (.int 1321) (.int x) st = ret (.int (1321 * x)) st := fun _ _ => m_mulL (by decide)
  have u2 : ∀ (x : Int) (st : Sto), mulM (.int x) (.int 40037) st = ret (.int (x * 40037)) st := fun _ _ => m_mulR (by decide)
  have u3 : ∀ (x : Int) (st : Sto), mulM (.int x) (.int 19) st = ret (.int (x * 19)) st := fun _ _ => m_mulR (by decide)
  have u6 : ∀ (x : Int) (st : Sto), modM (.int x) (.int 1999999751) st = ret (.int (x % 1999999751)) st := fun _ _ => m_mod (by decide)
  have u7 : ∀ (st : Sto), powM (.int 10) (.int 13) st = ret (.int 10000000000000) st := fun _ => m_pow (by decide)
  simp [start_def, u1, m_slR h, hl, hof]
  refine wp_forN rfl (fun _ ρ st' => st' = st1 ++ [.lst (l.map MV.int)] ∧ ∃ (m : Int) (x : Option MV), ρ = [some (.ref i), some (.int n), some (.int z), some (.int m), x]) ⟨rfl, _, _, rfl⟩ goes_name (fun a ρ st' ha hI => ?_) (fun ρ st' hI => ?_)
  · obtain ⟨rfl, m, x, rfl⟩ := hI
    have ha : a < l.length := by simpa using ha
    have hg : IM.get (.sq (.l st1.length (l.map MV.int).length)) a (st1 ++ [.lst (l.map MV.int)]) = some (.int l[a]) := by
      rw [get_sq, get_l hL]
      simp [ha]
    refine ⟨_, by simpa using hg, ?_⟩
    simp [u2, u6]
  · obtain ⟨rfl, m, x, rfl⟩ := hI
    have hf : IM.fin (.sq (.l st1.length (l.map MV.int).length)) (st1 ++ [.lst (l.map MV.int)]) = true := by rw [fin_sq]; exact fin_l hL
    refine ⟨by simpa using hf, ?_⟩
    have lv : lowV st1.length (.ref (st1.length + 1)) = false := by unfold lowV; simp
    have tail := fun a b : Int => jug_tail st1 (.lst (l.map MV.int)) a b
    have s3 : 3 ≤ sizeLine := by decide
    simp [u3, u6, u7, lv, s3]
    split
    · exact tail _ _
    · split
      · exact tail _ _
      · exact tail _ _
end Kk01
namespace Kk01
open PySem PySem.Spec L2 CS
theorem crowd_ok (k i : Nat) (rs : List Rdr) (t : Int) (st : Sto) (h : CS.listOf st i = some (rs.map riderV)) (hl : rs.length ≤ 1000) : ∃ xs, sem (k + 1) F__law_crowd [.ref i, .int t] st = ret (.ref st.length) (st ++ [.lst xs]) ∧ xs.length = crowd rs t := by
  have key : Wp (sem (k + 1) F__law_crowd [.ref i, .int t] st) fun v st' => v = .ref st.length ∧ ∃ xs, st' = st ++ [.lst xs] ∧ xs.length = crowd rs t := by
    rw [at__law_crowd, wp_def]
    simp [D__law_crowd, start_def, m_lenIR h, wipeM]
    refine ⟨by omega, by rw [sizeLine_eq]; omega, ?_⟩
    refine wp_lcN rfl (fun q acc st' => st' = st ∧ acc.length = crowd (rs.take q) t) ⟨rfl, by simp [crowd]⟩ (fun q acc st' hi hI => ?_) (fun acc st' hI => ?_)
    · obtain ⟨rfl, h1⟩ := hI
      have hi : q < rs.length := by simpa using hi
      refine ⟨_, _, get_rng (by simpa using hi), rfl, ?_⟩
      have hc := crowd_take (t := t) hi
      have e : atI (rs.map riderV) (0 + (q : Int)) = some (riderV rs[q]) := by rw [Int.zero_add]; exact at_nat (by simp [hi])
      have e1 : ixM (.ref i) (.int (0 + (q : Int))) st' = ret (riderV rs[q]) st' := m_ixR h e
      have e1' : ixM (.ref i) (.int (q : Int)) st' = ret (riderV rs[q]) st' := by rw [Int.zero_add] at e1; exact e1
      by_cases q1 : rs[q].1 ≤ t <;> by_cases q2 : t < rs[q].2.1 <;> simp [e1', riderV, q1, q2, h1, hc, isAb]
    · obtain ⟨rfl, h1⟩ := hI
      have h1 : acc.length = crowd rs t := by simpa using h1
      have lv : lowV st'.length (.ref st'.length) = false := by unfold lowV; simp
      simp [lv, h1]
  obtain ⟨v, st', e, rfl, xs, rfl, h1⟩ := key.get
  exact ⟨xs, e, h1⟩
structure TripOk (most : Int) (cs : List Int) (rs : List Rdr) : Prop where
  c1 : 1 ≤ cs.length
  c2 : (cs.length : Int) ≤ most
  c3 : ∀ c ∈ cs, 0 ≤ c ∧ c ≤ 100
  r1 : 1 ≤ rs.length
  r2 : rs.length ≤ 6
  r3 : ∀ r ∈ rs, riderOk cs.length r = true
  cr : ∀ t : Int, 0 ≤ t → t < cs.length → crowd rs t ≤ 4
theorem prices_ok (k j n : Nat) (ρ : MEnv) (st : Sto) (hj : JugAt j st) (hn : n ≤ 1000) (hρ : ρ[0]? = some (some (.ref j))) (h8 : ρ.length = 9) :
    Wp (lcM (.rng 0 n) (.one 8) bYes (eCall (sem (k + 2) F__law_one) (aCons (eVar 0) (aCons (eLst (aCons (eC (.int 0)) (aCons (eC (.int 1)) (aCons (eC (.int 6)) (aCons (eC (.int 10)) (aCons (eC (.int 12)) (aCons (eOp addM (eC (.int 1)) (eCall (sem (k + 2) F__law_drop) (aCons (eVar 0) (aCons (eC (.int 40)) aNil)))) aNil)))))) ) aNil))) n 0 ρ st)
      fun xs st' => (∃ cs : List Int, xs = cs.map .int ∧ cs.length = n ∧ ∀ c ∈ cs, 0 ≤ c ∧ c ≤ 100) ∧ Jg j st st' := by
  refine wp_lcN rfl (fun q acc st' => Jg j st st' ∧ ∃ cs : List Int, acc = cs.map .int ∧ cs.length = q ∧ ∀ c ∈ cs, 0 ≤ c ∧ c ≤ 100) ⟨.refl hj, [], rfl, rfl, by simp⟩ (fun q acc st1 hi hI => ?_) (fun acc st1 hI => ?_)
  · obtain ⟨g, cs, rfl, hl, hc⟩ := hI
    refine ⟨_, _, get_rng hi, rfl, ?_⟩
    have r0 : (ρ.set 8 (some (.int (0 + (q : Int)))))[0]? = some (some (.ref j)) := by rw [List.getElem?_set_ne (by decide)]; exact hρ
    simp only [b_yes, if_true, e_call, a_cons, a_nil, e_var, r0, e_lst, e_c, e_op]
    refine Wp.quiet (drop_ok (k + 1) j 40 st1 g.jug (by decide) (by decide)) ?_
    rintro v st2 ⟨⟨d, rfl, d0, d1⟩, g2⟩
    have s6 : 6 ≤ sizeLine := by decide
    simp [s6]
    have g3 : Jg j st1 (st2 ++ [.lst [.int 0, .int 1, .int 6, .int 10, .int 12, .int (1 + d)]]) := g2.app _
    have hL : CS.listOf (st2 ++ [.lst [.int 0, .int 1, .int 6, .int 10, .int 12, .int (1 + d)]]) st2.length = some [.int 0, .int 1, .int 6, .int 10, .int 12, .int (1 + d)] := list_at (by simp)
    have hne : st2.length ≠ j := fun z => by have := g2.jug.lt; omega
    refine Wp.quiet (one_ok k j st2.length _ _ g3.jug hL hne (by simp) (by simp)) ?_
    rintro v st3 ⟨hv, g4⟩
    refine ⟨g.trans (g3.trans g4), ?_⟩
    have : ∃ c : Int, v = .int c ∧ 0 ≤ c ∧ c ≤ 100 := by
      simp at hv
      rcases hv with rfl | rfl | rfl | rfl | rfl | rfl
      · exact ⟨_, rfl, by omega, by omega⟩
      · exact ⟨_, rfl, by omega, by omega⟩
      · exact ⟨_, rfl, by omega, by omega⟩
      · exact ⟨_, rfl, by omega, by omega⟩
      · exact ⟨_, rfl, by omega, by omega⟩
      · exact ⟨_, rfl, by omega, by omega⟩
    obtain ⟨c, rfl, c0, c1⟩ := this
    refine ⟨cs ++ [c], by simp, by simp [hl], fun x hx => ?_⟩
    rcases List.mem_append.mp hx with h | h
    · exact hc x h
    · simp at h; subst h; exact ⟨c0, c1⟩
  · obtain ⟨g, cs, rfl, hl, hc⟩ := hI
    exact ⟨rfl, ⟨cs, rfl, hl, hc⟩, g⟩
end Kk01
namespace Kk01
open PySem PySem.Spec L2 CS
theorem fits_ok (k i n : Nat) (t0 : Tb) (rs : List Rdr) (ρ : MEnv) (st : Sto) (hl : rs.length ≤ 1000) (hn : n ≤ 1000) (h : CS.listOf st i = some (rs.map riderV)) (hρ : ρ[7]? = some (some (.ref i))) (h8 : ρ.length = 9) :
    Wp (lcM (.rng 0 n) (.one 8) bYes (eOp leM (eCall (lenI t0) (aCons (eCall (sem (k + 1) F__law_crowd) (aCons (eVar 7) (aCons (eVar 8) aNil))) aNil)) (eC (.int 4))) n 0 ρ st)
      fun xs st' => xs = ((List.range n).map fun (q : Nat) => decide (crowd rs (q : Int) ≤ 4)).map .bl ∧ ∃ t, st' = st ++ t := by
  refine wp_lcN rfl (fun q acc st' => acc = ((List.range q).map fun (q : Nat) => decide (crowd rs (q : Int) ≤ 4)).map .bl ∧ ∃ t, st' = st ++ t) ⟨rfl, [], by simp⟩ (fun q acc st1 hi hI => ?_) (fun acc st1 hI => ?_)
  · obtain ⟨rfl, t, rfl⟩ := hI
    refine ⟨_, _, get_rng hi, rfl, ?_⟩
    have r7 : (ρ.set 8 (some (.int (0 + (q : Int)))))[7]? = some (some (.ref i)) := by rw [List.getElem?_set_ne (by decide)]; exact hρ
    have r8 : (ρ.set 8 (some (.int (0 + (q : Int)))))[8]? = some (some (.int (0 + (q : Int)))) := by rw [List.getElem?_set_self (by omega)]
    have h' : CS.listOf (st ++ t) i = some (rs.map riderV) := by
      unfold CS.listOf at h ⊢
      have hi : i < st.length := by
        cases q : st[i]? with
        | none => rw [q] at h; cases h
        | some o => exact (List.getElem?_eq_some_iff.mp q).1
      rw [List.getElem?_append_left hi]
      exact h
    obtain ⟨xs, e, hx⟩ := crowd_ok k i rs (0 + (q : Int)) (st ++ t) h' hl
    have hL : CS.listOf ((st ++ t) ++ [.lst xs]) (st ++ t).length = some xs := list_at (by simp)
    have e2 := m_lenIR (t := t0) hL
    simp only [b_yes, if_true, e_op, e_call, a_cons, a_nil, e_var, r7, r8, e, wp_ret, e2, e_c, m_le]
    refine ⟨?_, t ++ [.lst xs], by simp⟩
    have hc : ((xs.length : Int) ≤ 4) ↔ crowd rs (q : Int) ≤ 4 := by rw [hx]; simp; omega
    rw [List.range_succ]
    simp [hc]
  · obtain ⟨rfl, t, rfl⟩ := hI
    exact ⟨rfl, rfl, t, rfl⟩
theorem crowd_one (r : Rdr) (t : Int) : crowd [r] t ≤ 1 := by
  unfold crowd
  exact Nat.le_trans (List.length_filter_le _ _) (by simp)
structure FolkOk (n : Nat) (rs : List Rdr) : Prop where
  r3 : ∀ r ∈ rs, riderOk n r = true
  cr : ∀ t : Int, 0 ≤ t → t < n → crowd rs t ≤ 4
theorem m_addR {st : Sto} {i j : Nat} {xs ys : List MV} (h1 : st[i]? = some (.lst xs)) (h2 : st[j]? = some (.lst ys)) (hl : xs.length + ys.length ≤ sizeLine) : addM (.ref i) (.ref j) st = ret (.ref st.length) (st ++ [.lst (xs ++ ys)]) := by
  unfold addM
  simp only [h1, h2]
  rw [if_pos hl]
theorem trip_ok (k j : Nat) (most : Int) (st : Sto) (hj : JugAt j st) (h0 : 0 < most) (h1 : most ≤ 100) : Wp (sem (k + 3) F__law_trip [.ref j, .int most] st) fun v st' => (∃ cs rs, v = .tup [costsV cs, ridersV rs] ∧ TripOk most cs rs) ∧ Jg j st st' := by
  have hjl := hj.lt
  rw [at__law_trip, wp_def]
  simp only [D__law_trip, s_sq, s_as, e_op, e_c, e_call, a_cons, a_nil]
  simp only [start_def, e_var, List.length_cons, List.length_nil, List.map_cons, List.map_nil, List.cons_append, List.nil_append, List.getElem?_cons_zero, List.getElem?_cons_succ]
  refine Wp.quiet (drop_ok (k + 1) j most st hj h0 (by omega)) ?_
  rintro v st1 ⟨⟨d, rfl, d0, d1⟩, g1⟩
  obtain ⟨n, hn⟩ : ∃ n : Nat, 1 + d = (n : Int) := ⟨(1 + d).toNat, by omega⟩
  have n0 : 1 ≤ n := by omega
  have n1 : (n : Int) ≤ most := by omega
  simp [wipeM, List.replicate, hn]
  refine ⟨by omega, by rw [sizeLine_eq]; omega, ?_⟩
  refine Wp.quiet (prices_ok k j n _ st1 g1.jug (by omega) rfl rfl) ?_
  rintro xs st2 ⟨⟨cs, rfl, cl, cc⟩, g2⟩
  have g3 : Jg j st1 (st2 ++ [.lst (cs.map .int), .lst []]) := g2.app _
  have hL3 : (st2 ++ [.lst (cs.map MV.int), .lst []])[st2.length]? = some (.lst (cs.map .int)) := by simp
  have hF3 : (st2 ++ [.lst (cs.map MV.int), .lst []])[st2.length + 1]? = some (.lst (([] : List Rdr).map riderV)) := by simp
  have j2 : j < st2.length := g2.jug.lt
  refine Wp.quiet (drop_ok (k + 1) j 6 _ g3.jug (by decide) (by decide)) ?_
  rintro v st4 ⟨⟨e, rfl, e0, e1⟩, g4⟩
  obtain ⟨m, hm⟩ : ∃ m : Nat, 1 + e = (m : Int) := ⟨(1 + e).toNat, by omega⟩
  have hL4 := g4.look hL3 (by omega)
  have hF4 := g4.look hF3 (by omega)
  simp [hm]
  refine ⟨by omega, ?_⟩
  refine wp_forN (n := m) rfl (fun q ρ st' => Jg j st4 st' ∧ ∃ (F : Nat) (rs : List Rdr) (a b c : Option MV), ρ = [some (.ref j), some (.int most), some (.int n), some (.ref st2.length), some (.ref F), a, b, c, none] ∧ F ≠ j ∧ st'[F]? = some (.lst (rs.map riderV)) ∧ FolkOk n rs ∧ rs.length ≤ q ∧ (1 ≤ q → 1 ≤ rs.length))
    ⟨.refl g4.jug, st2.length + 1, [], none, none, none, rfl, by omega, hF4, ⟨by simp, by simp [crowd]⟩, by simp, by simp⟩ goes_name (fun q ρ st5 hq hI => ?_) (fun ρ st5 hI => ?_)
  · obtain ⟨g5, F, rs, a, b, c, rfl, hFj, hF, hk, hlen, hpos⟩ := hI
    refine ⟨_, get_rng hq, ?_⟩
    simp
    refine Wp.quiet (drop_ok (k + 1) j n st5 g5.jug (by omega) (by omega)) ?_
    rintro v st6 ⟨⟨u, rfl, u0, u1⟩, g6⟩
    try simp
    refine Wp.quiet (drop_ok (k + 1) j (n - u) st6 g6.jug (by omega) (by omega)) ?_
    rintro v st7 ⟨⟨w, rfl, w0, w1⟩, g7⟩
    try simp
    refine Wp.quiet (drop_ok (k + 1) j 4 st7 g7.jug (by decide) (by decide)) ?_
    rintro v st8 ⟨⟨x, rfl, x0, x1⟩, g8⟩
    try simp
    have s3 : 3 ≤ sizeLine := by decide
    have s1 : 1 ≤ sizeLine := by decide
    refine ⟨s3, s1, ?_⟩
    let r : Rdr := (u, u + 1 + w, x)
    have hF8 : st8[F]? = some (.lst (rs.map riderV)) := g8.look (g7.look (g6.look hF hFj) hFj) hFj
    have Fl : F < st8.length := (List.getElem?_eq_some_iff.mp hF8).1
    have hFa : (st8 ++ [.lst [MV.tup [.int u, .int (u + 1 + w), .int x]]])[F]? = some (.lst (rs.map riderV)) := by rw [List.getElem?_append_left Fl]; exact hF8
    have hRa : (st8 ++ [.lst [MV.tup [.int u, .int (u + 1 + w), .int x]]])[st8.length]? = some (.lst [riderV r]) := by simp [r, riderV]
    have hm6 : m ≤ 6 := by omega
    have hl7 : rs.length < 6 := by omega
    rw [m_addR hFa hRa (by simp; rw [sizeLine_eq]; omega)]
    simp
    refine ⟨by omega, by rw [sizeLine_eq]; omega, ?_⟩
    have hN : CS.listOf (st8 ++ [MO.lst [MV.tup [.int u, .int (u + 1 + w), .int x]], MO.lst (rs.map riderV ++ [riderV r])]) (st8.length + 1) = some ((rs ++ [r]).map riderV) := by
      refine list_at ?_
      rw [List.getElem?_append_right (by omega)]
      simp
    refine Wp.quiet (fits_ok (k + 1) (st8.length + 1) n _ (rs ++ [r]) _ _ (by simp; omega) (by omega) hN (by simp [wipeM]) (by simp [wipeM])) ?_
    rintro ys st9 ⟨rfl, t9, rfl⟩
    have j8 : j < st8.length := g8.jug.lt
    have gg : Jg j st4 (st8 ++ [MO.lst [MV.tup [.int u, .int (u + 1 + w), .int x]], MO.lst (rs.map riderV ++ [riderV r])] ++ t9) := (((g5.trans (g6.trans (g7.trans g8))).app _).app _)
    rw [allL_map]
    simp
    split
    · rename_i hall
      refine ⟨by simpa using gg, by omega, rs ++ [r], ?_, ⟨?_, ?_⟩, by simp; omega, by simp⟩
      · simp
      · intro z hz
        rcases List.mem_append.mp hz with hz | hz
        · exact hk.r3 z hz
        · simp at hz
          subst hz
          simp [riderOk, r]
          omega
      · intro t t0 t1
        have := hall t.toNat (by omega)
        rwa [Int.toNat_of_nonneg t0] at this
    · rename_i hall
      have hne : rs ≠ [] := by
        rintro rfl
        apply hall
        intro z hz
        exact Nat.le_trans (crowd_one r z) (by decide)
      have : 1 ≤ rs.length := by
        cases rs with
        | nil => exact absurd rfl hne
        | cons a b => simp
      refine ⟨by simpa using gg, hFj, rs, ?_, hk, by omega, this⟩
      rw [List.getElem?_append_left Fl]
      exact hF8
  · obtain ⟨g5, F, rs, a, b, c, rfl, hFj, hF, hk, hlen, hpos⟩ := hI
    have hL5 := g5.look hL4 (by omega)
    have e1 : tupleM [.ref st2.length] st5 = ret (costsV cs) st5 := by
      show (match CS.listOf st5 st2.length with | some ys => ret (MV.tup ys) st5 | none => none) = _
      rw [list_at hL5]
      rfl
    have e2 : tupleM [.ref F] st5 = ret (ridersV rs) st5 := by
      show (match CS.listOf st5 F with | some ys => ret (MV.tup ys) st5 | none => none) = _
      rw [list_at hF]
      rfl
    have s2 : 2 ≤ sizeLine := by decide
    have hcl : (cs.length : Int) = n := by rw [cl]
    have T : TripOk most cs rs := ⟨by omega, by omega, cc, hpos (by omega), by omega, fun r hr => by rw [hcl]; exact hk.r3 r hr, fun t t0 t1 => hk.cr t t0 (by omega)⟩
    have gz : Jg j st st5 := g1.trans (g3.trans (g4.trans g5))
    simp [e1, e2, s2]
    exact ⟨⟨cs, rs, ⟨rfl, rfl⟩, T⟩, gz.gcI hjl⟩
end Kk01
namespace Kk01
open PySem PySem.Spec L2 CS
theorem j_cons {f : DE} {fs : List DE} {acc : Str} {ρ : MEnv} {st : Sto} {P : MV → Sto → Prop} {X : MX → Sto → Prop} : Wp (joinM (f :: fs) acc ρ st) P X = Wp (f ρ st) (fun x st1 => Wp (match x with
    | .str y => if (acc ++ y).length ≤ sizeLine then joinM fs (acc ++ y) ρ st1 else none
    | _ => none) P X) X := wp_bnd
theorem j_nil {acc : Str} {ρ : MEnv} {st : Sto} {P : MV → Sto → Prop} {X : MX → Sto → Prop} : Wp (joinM [] acc ρ st) P X = P (.str acc) st := id rfl
theorem e_fm {f : DE} {ρ : MEnv} {st : Sto} {P : MV → Sto → Prop} {X : MX → Sto → Prop} : Wp (eFm f ρ st) P X = Wp (f ρ st) (fun x st1 => Wp (match x with
    | .str y => if y.length ≤ sizeLine then ret (.str y) st1 else none
    | .int i => if i.natAbs.log2 < 1920 then ret (.str (toString i)) st1 else none
    | _ => none) P X) X := by unfold eFm; simp only [wp_bnd] <;> rfl
def text (n m : Int) : Str := ((((("Ride(" : Str) ++ (toString n : Str)) ++ (" stretches, " : Str)) ++ (toString m : Str)) ++ (" riders)" : Str))
theorem small_log {n : Int} (h0 : 0 ≤ n) (h1 : n ≤ 1000) : n.natAbs.log2 < 1920 := by
  by_cases h : n.natAbs = 0
  · rw [h]; decide
  · rw [Nat.log2_lt h]
    exact Nat.lt_of_le_of_lt (show n.natAbs ≤ 1000 by omega) (by decide +kernel)
theorem text_facts : ∀ n : Nat, n < 13 → ∀ m : Nat, m < 7 → PyData.strOk (text n m) = true ∧ (text n m).length ≤ 60 ∧ (Str.empty ++ ("Ride(" : Str)) = ("Ride(" : Str) := by decide +kernel
theorem len_str (n : Nat) (h : n ≤ 1000) : (Str.ofString (toString (n : Int))).length ≤ 1921 := PyProof.Rows.int_text_len_1921 (small_log (by omega) (by omega))
theorem repr_ok (k i : Nat) (cs : List Int) (rs : List Rdr) (st : Sto) (h : IsRide st i cs rs) (hc : cs.length ≤ 12) (hr : rs.length ≤ 6) : sem (k + 1) F_Ride___repr__ [.ref i] st = ret (.str (text cs.length rs.length)) st := by
  rw [at_Ride___repr__]
  refine def_eq rfl ?_
  unfold IsRide at h
  have l1 := len_str cs.length (by omega)
  have l2 := len_str rs.length (by omega)
  have l1' : (Str.ofString ((cs.length : Int).repr)).length ≤ 1921 := l1
  have l2' : (Str.ofString ((rs.length : Int).repr)).length ≤ 1921 := l2
  have g1 : cs.length.log2 < 1920 := small_log (n := (cs.length : Int)) (by omega) (by omega)
  have g2 : rs.length.log2 < 1920 := small_log (n := (rs.length : Int)) (by omega) (by omega)
  have a0 : (Str.empty ++ ("Ride(" : Str)) = ("Ride(" : Str) := by decide
  have k0 : Str.empty.length = 0 := by decide
  have k1 : ("Ride(" : Str).length = 5 := by decide
  have k2 : (" stretches, " : Str).length = 12 := by decide
  have k3 : (" riders)" : Str).length = 8 := by decide
  simp [D_Ride___repr__, start_def, eJn, j_cons, j_nil, e_fm, h, f_costs, f_riders, a0, strLen_append, k0, k1, k2, k3]
  simp [sizeLine_eq, text]
  omega
theorem reprI_ride (k i : Nat) (cs : List Int) (rs : List Rdr) (st : Sto) (h : IsRide st i cs rs) (hc : cs.length ≤ 12) (hr : rs.length ≤ 6) : reprI (tbOf sp_repr (sem (k + 1))) [.ref i] st = ret (.str (text cs.length rs.length)) st := by
  show (match ownG (tbOf sp_repr (sem (k + 1))) (.ref i) st with
    | some g => bndP (g [.ref i] st) asStr fun n st1 => ret (MV.str n) st1
    | none => _) = _
  rw [own_ride h]
  show bndP (sem (k + 1) F_Ride___repr__ [.ref i] st) asStr (fun n st1 => ret (MV.str n) st1) = _
  rw [repr_ok k i cs rs st h hc hr]
  exact bndP_some rfl
theorem RideOk.of_trip {cs : List Int} {rs : List Rdr} (h : TripOk 12 cs rs) : RideOk cs rs :=
  ⟨h.c1, by have := h.c2; omega, fun c hc => by have := h.c3 c hc; omega, h.r1, h.r2, h.r3, h.cr⟩
def csMax : List Int := List.replicate 12 1000000
def rsMax : List Rdr := List.replicate 4 (0, 12, 9)
theorem max_ok : RideOk csMax rsMax := by
  refine ⟨by decide, by decide, by decide, by decide, by decide, by decide, fun t _ _ => ?_⟩
  unfold crowd
  exact Nat.le_trans (List.length_filter_le _ _) (by decide)
def nearC : List Int → List Int
  | [] => []
  | c :: cs => (if c < 1000000 then c + 1 else 0) :: cs
def lateR (rs : List Rdr) : List Rdr := match rs.getLast? with
  | none => []
  | some r => rs.dropLast ++ [(r.1, r.2.1, (r.2.2 + 1) % 10)]
end Kk01
namespace Kk01
open PySem PySem.Spec L2 CS
theorem draw_ok (k j : Nat) (ρ : MEnv) (st : Sto) (hj : JugAt j st) (hρ : ρ[0]? = some (some (.ref j))) :
    Wp (eCall (sem (k + 3) F__law_one) (aCons (eVar 0) (aCons (eLst (aCons (eCall (sem (k + 3) F__law_trip) (aCons (eVar 0) (aCons (eC (.int 12)) aNil))) (aCons (eTup (aCons (eOp mulM (eTup (aCons (eOp powM (eC (.int 10)) (eC (.int 6))) aNil)) (eC (.int 12))) (aCons (eOp mulM (eTup (aCons (eTup (aCons (eC (.int 0)) (aCons (eC (.int 12)) (aCons (eC (.int 9)) aNil)))) aNil)) (eC (.int 4))) aNil))) aNil))) aNil)) ρ st)
      fun v st' => (∃ cs rs, v = .tup [costsV cs, ridersV rs] ∧ RideOk cs rs) ∧ Jg j st st' := by
  simp only [e_call, a_cons, a_nil, e_var, hρ, e_lst, e_c]
  refine Wp.quiet (trip_ok k j 12 st hj (by decide) (by decide)) ?_
  rintro v st1 ⟨⟨cs, rs, rfl, T⟩, g1⟩
  have u7 : ∀ (st : Sto), powM (.int 10) (.int 6) st = ret (.int 1000000) st := fun _ => m_pow (by decide)
  have s1 : 1 ≤ sizeLine := by decide
  have s2 : 2 ≤ sizeLine := by decide
  have s3 : 3 ≤ sizeLine := by decide
  have m1 : ∀ st : Sto, mulM (.tup [.int 1000000]) (.int 12) st = ret (costsV csMax) st := fun _ => rfl
  have m2 : ∀ st : Sto, mulM (.tup [.tup [.int 0, .int 12, .int 9]]) (.int 4) st = ret (ridersV rsMax) st := fun _ => rfl
  simp [u7, s1, s2, s3, m1, m2]
  have g2 : Jg j st (st1 ++ [.lst [.tup [costsV cs, ridersV rs], .tup [costsV csMax, ridersV rsMax]]]) := g1.app _
  have hL : CS.listOf (st1 ++ [.lst [.tup [costsV cs, ridersV rs], .tup [costsV csMax, ridersV rsMax]]]) st1.length = some [.tup [costsV cs, ridersV rs], .tup [costsV csMax, ridersV rsMax]] := list_at (by simp)
  refine Wp.quiet (one_ok (k + 1) j st1.length _ _ g2.jug hL (fun z => by have := g1.jug.lt; omega) (by simp) (by simp)) ?_
  rintro v st3 ⟨hv, g3⟩
  refine ⟨?_, g2.trans g3⟩
  simp at hv
  rcases hv with rfl | rfl
  · exact ⟨cs, rs, rfl, .of_trip T⟩
  · exact ⟨csMax, rsMax, rfl, max_ok⟩
theorem cs_cons {cs : List Int} (h : 1 ≤ cs.length) : ∃ c t, cs = c :: t := by
  cases cs with
  | nil => simp at h
  | cons c t => exact ⟨c, t, rfl⟩
theorem IsRide.app {st : Sto} {i : Nat} {cs : List Int} {rs : List Rdr} (h : IsRide st i cs rs) (t : Sto) : IsRide (st ++ t) i cs rs := by
  unfold IsRide at h ⊢
  rw [List.getElem?_append_left (List.getElem?_eq_some_iff.mp h).1]
  exact h
theorem text_eqs (n m : Nat) (hn : n ≤ 12) (hm : m ≤ 6) : ∃ z1 z2 : Str, (∀ st, strM [.int n] st = ret (.str z1) st) ∧ (∀ st, strM [.int m] st = ret (.str z2) st) ∧ (∀ st, addM (.str "Ride(") (.str z1) st = ret (.str (("Ride(" : Str) ++ z1)) st) ∧
    (∀ st, addM (.str (("Ride(" : Str) ++ z1)) (.str " stretches, ") st = ret (.str ((("Ride(" : Str) ++ z1) ++ (" stretches, " : Str))) st) ∧ (∀ st, addM (.str ((("Ride(" : Str) ++ z1) ++ (" stretches, " : Str))) (.str z2) st = ret (.str (((("Ride(" : Str) ++ z1) ++ (" stretches, " : Str)) ++ z2)) st) ∧
    (∀ st, addM (.str (((("Ride(" : Str) ++ z1) ++ (" stretches, " : Str)) ++ z2)) (.str " riders)") st = ret (.str (text n m)) st) := by
  have l1 := len_str n (by omega)
  have l2 := len_str m (by omega)
  have k1 : ("Ride(" : Str).length = 5 := by decide
  have k2 : (" stretches, " : Str).length = 12 := by decide
  have k3 : (" riders)" : Str).length = 8 := by decide
  refine ⟨Str.ofString (toString (n : Int)), Str.ofString (toString (m : Int)), fun st => m_str (small_log (by omega) (by omega)), fun st => m_str (small_log (by omega) (by omega)), fun st => if_pos ?_, fun st => if_pos ?_, fun st => if_pos ?_, fun st => if_pos ?_⟩
  all_goals
    simp only [strLen_append, k1, k2, k3]
    rw [sizeLine_eq]
    omega
theorem lenI_ride' (k i : Nat) (cs : List Int) (rs : List Rdr) (st : Sto) (h : IsRide st i cs rs) (hr : rs.length ≤ 6) : lenI [(C_Ride, sem (k + 1) F_Ride___len__)] [.ref i] st = ret (.int rs.length) st := lenI_ride k i cs rs st h hr
theorem boolI_ride' (k i : Nat) (cs : List Int) (rs : List Rdr) (st : Sto) (h : IsRide st i cs rs) (h1 : 1 ≤ rs.length) (hr : rs.length ≤ 6) : boolI [(C_Ride, sem (k + 1) F_Ride___len__)] [.ref i] st = ret (.bl true) st := boolI_ride k i cs rs st h h1 hr
theorem reprI_ride' (k i : Nat) (cs : List Int) (rs : List Rdr) (st : Sto) (h : IsRide st i cs rs) (hc : cs.length ≤ 12) (hr : rs.length ≤ 6) : reprI [(C_Ride, sem (k + 1) F_Ride___repr__)] [.ref i] st = ret (.str (text cs.length rs.length)) st := reprI_ride k i cs rs st h hc hr
abbrev seenV (cs : List Int) (rs : List Rdr) : List MV := [costsV cs, ridersV rs, .tup [costsV cs, ridersV rs], .int rs.length, .str (text cs.length rs.length), .bl true]
theorem log_le {i : Int} (h : i.natAbs < 2 ^ 62) : i.natAbs.log2 < 1920 := by
  by_cases h0 : i.natAbs = 0
  · rw [h0]; decide
  · rw [Nat.log2_lt h0]
    exact Nat.lt_of_lt_of_le h (Nat.pow_le_pow_right (by decide) (by decide))
theorem rider_small {n : Int} {r : Rdr} (h : riderOk n r = true) (hn : n ≤ 12) : r.1.natAbs < 16 ∧ r.2.1.natAbs < 16 ∧ r.2.2.natAbs < 16 := by
  simp [riderOk] at h
  omega
theorem show_costs {cs : List Int} (h : ∀ c ∈ cs, 0 ≤ c ∧ c ≤ 1000000) : showM (costsV cs) = true := by
  unfold costsV
  refine showMs_map fun c hc => decide_eq_true (log_le ?_)
  have := h c hc
  omega
theorem show_riders {cs : List Int} {rs : List Rdr} (h : RideOk cs rs) : showM (ridersV rs) = true := by
  unfold ridersV
  refine showMs_map fun r hr => ?_
  have := rider_small (h.r3 r hr) (by have := h.c2; omega)
  simp [riderV, log_le (show r.1.natAbs < 2 ^ 62 by omega), log_le (show r.2.1.natAbs < 2 ^ 62 by omega), log_le (show r.2.2.natAbs < 2 ^ 62 by omega)]
theorem wt_costs {cs : List Int} (h : ∀ c ∈ cs, 0 ≤ c ∧ c ≤ 1000000) (hl : cs.length ≤ 12) : wtM (costsV cs) ≤ 252 := by
  unfold costsV
  rw [wtM_tup]
  refine Nat.le_trans (wtMs_map (B := 20) fun c hc => wtM_int (k := 20) ?_) ?_
  · have := h c hc
    have e : (2 : Nat) ^ 20 = 1048576 := by decide
    omega
  · omega
theorem wt_riders {cs : List Int} {rs : List Rdr} (h : RideOk cs rs) : wtM (ridersV rs) ≤ 96 := by
  unfold ridersV
  rw [wtM_tup]
  refine Nat.le_trans (wtMs_map (B := 15) fun r hr => ?_) ?_
  · have := rider_small (h.r3 r hr) (by have := h.c2; omega)
    have h1 := wtM_int (i := r.1) (k := 4) (by omega)
    have h2 := wtM_int (i := r.2.1) (k := 4) (by omega)
    have h3 := wtM_int (i := r.2.2) (k := 4) (by omega)
    simp [riderV]
    omega
  · have := h.r2
    omega
theorem seen_repr (t : Tb) (i : Nat) (cs : List Int) (rs : List Rdr) (st : Sto) (ok : RideOk cs rs) (h : CS.listOf st i = some (seenV cs rs)) : reprI t [.ref i] st = ret (.str (PyData.shown (.list (datMs (seenV cs rs))))) st := by
  obtain ⟨f1, f2, _⟩ := text_facts cs.length (by have := ok.c2; omega) rs.length (by have := ok.r2; omega)
  refine repr_list (n := 3) h ?_ ?_ (by decide) ?_
  · simp [plain_costs, plain_riders, f1]
  · have := log_le (i := (rs.length : Int)) (by have := ok.r2; omega)
    simp [show_costs ok.c3, show_riders ok]
    simpa using this
  · have h1 := wt_costs ok.c3 ok.c2
    have h2 := wt_riders ok
    have h3 := wtM_int (i := (rs.length : Int)) (k := 4) (by have := ok.r2; omega)
    simp
    omega
theorem cmp_ne (k i : Nat) (cs cs' : List Int) (rs rs' : List Rdr) (S : Sto) (hR : IsRide S i cs rs) (ok' : RideOk cs' rs') {P : MV → Sto → Prop} {X X' : MX → Sto → Prop} :
    Wp (mkM (sem (k + 5) F_Ride___init__) C_Ride [costsV cs', ridersV rs'] S) (fun y S' => Wp (neI [(C_Ride, sem (k + 5) F_Ride___eq__)] os_eq (.ref i) y S') P X) X' = P (.bl (!eqV (toldV cs rs) (toldV cs' rs'))) (S ++ [.ins C_Ride (fieldsV cs' rs')]) := by
  have hn : IsRide (S ++ [.ins C_Ride (fieldsV cs' rs')]) S.length cs' rs' := by show (S ++ [_])[S.length]? = _; simp
  have e : neI [(C_Ride, sem (k + 5) F_Ride___eq__)] os_eq (.ref i) (.ref S.length) (S ++ [.ins C_Ride (fieldsV cs' rs')]) = _ := opNe_ride (k + 4) i S.length cs cs' rs rs' _ (hR.app _) hn
  rw [make_ok k cs' rs' S ok', wp_ret, e, wp_ret]
theorem cmp_eq (k i : Nat) (cs cs' : List Int) (rs rs' : List Rdr) (S : Sto) (hR : IsRide S i cs rs) (ok' : RideOk cs' rs') {P : MV → Sto → Prop} {X X' : MX → Sto → Prop} :
    Wp (mkM (sem (k + 5) F_Ride___init__) C_Ride [costsV cs', ridersV rs'] S) (fun y S' => Wp (eqI [(C_Ride, sem (k + 5) F_Ride___eq__)] os_eq (.ref i) y S') P X) X' = P (.bl (eqV (toldV cs rs) (toldV cs' rs'))) (S ++ [.ins C_Ride (fieldsV cs' rs')]) := by
  have hn : IsRide (S ++ [.ins C_Ride (fieldsV cs' rs')]) S.length cs' rs' := by show (S ++ [_])[S.length]? = _; simp
  have e : eqI [(C_Ride, sem (k + 5) F_Ride___eq__)] os_eq (.ref i) (.ref S.length) (S ++ [.ins C_Ride (fieldsV cs' rs')]) = _ := opEq_ride (k + 4) i S.length cs cs' rs rs' _ (hR.app _) hn
  rw [make_ok k cs' rs' S ok', wp_ret, e, wp_ret]
theorem cmp_eqT (k i : Nat) (xs : List MV) (cs : List Int) (rs : List Rdr) (S : Sto) (hR : IsRide S i cs rs) : eqI [(C_Ride, sem (k + 5) F_Ride___eq__)] os_eq (.ref i) (.tup xs) S = ret (.bl false) S := opEq_tup (k + 4) i xs cs rs S hR
theorem cmp_neT (k i : Nat) (xs : List MV) (cs : List Int) (rs : List Rdr) (S : Sto) (hR : IsRide S i cs rs) : neI [(C_Ride, sem (k + 5) F_Ride___eq__)] os_eq (.ref i) (.tup xs) S = ret (.bl true) S := opNe_tup (k + 4) i xs cs rs S hR
end Kk01
namespace Kk01
open PySem PySem.Spec L2 CS
theorem rs_snoc {rs : List Rdr} (h : 1 ≤ rs.length) : ∃ ri r, rs = ri ++ [r] := by
  have : rs ≠ [] := by intro e; rw [e] at h; simp at h
  exact ⟨rs.dropLast, rs.getLast this, (List.dropLast_concat_getLast this).symm⟩
theorem near_ok {c x : Int} {t : List Int} {rs : List Rdr} (ok : RideOk (c :: t) rs) (h0 : 0 ≤ x) (h1 : x ≤ 1000000) : RideOk (x :: t) rs :=
  ⟨ok.c1, ok.c2, fun d hd => by
    rcases List.mem_cons.mp hd with rfl | hd
    · exact ⟨h0, h1⟩
    · exact ok.c3 d (List.mem_cons_of_mem _ hd), ok.r1, ok.r2, ok.r3, ok.cr⟩
theorem late_ok {cs : List Int} {ri : List Rdr} {r : Rdr} {x : Int} (ok : RideOk cs (ri ++ [r])) (h0 : 0 ≤ x) (h1 : x < 10) : RideOk cs (ri ++ [(r.1, r.2.1, x)]) := by
  refine ⟨ok.c1, ok.c2, ok.c3, ?_, ?_, ?_, ?_⟩
  · simp
  · have := ok.r2; simpa using this
  · intro a ha
    rcases List.mem_append.mp ha with ha | ha
    · exact ok.r3 a (List.mem_append_left _ ha)
    · have := ok.r3 r (by simp)
      simp at ha
      subst ha
      simp [riderOk] at this ⊢
      omega
  · intro q h h'
    have := ok.cr q h h'
    unfold crowd at this ⊢
    have e : isAb q (r.1, r.2.1, x) = isAb q r := rfl
    simp only [List.filter_append, List.filter_cons, List.filter_nil, List.length_append, e] at this ⊢
    split at this <;> simp_all
theorem near_facts (c : Int) (t : List Int) (st : Sto) : ixM (.tup ((c :: t).map .int)) (.int 0) st = ret (.int c) st ∧ slM (.tup ((c :: t).map .int)) (some 1) none st = ret (.tup (t.map .int)) st := by
  refine ⟨m_ixT0, ?_⟩
  show ret (MV.tup (cutM _ _ _)) st = _
  unfold cutM
  simp [HT.sIx]
  rw [List.take_of_length_le (by simp)]
theorem late_facts (ri : List Rdr) (r : Rdr) (st : Sto) : ixM (ridersV (ri ++ [r])) (.int (-1)) st = ret (riderV r) st ∧ slM (ridersV (ri ++ [r])) none (some (-1)) st = ret (.tup (ri.map riderV)) st := by
  constructor
  · refine m_ixT ?_
    have e : (-1 + ((ri.length : Int) + 1)).toNat = ri.length := by omega
    unfold atI ixN
    simp [e]
    rw [if_pos (by omega)]
    simp
  · show ret (MV.tup (cutM _ _ _)) st = _
    have e : (-1 + ((ri.length : Int) + 1)).toNat = ri.length := by omega
    unfold cutM
    simp [HT.sIx, e]
theorem right_ok (k j : Nat) (st : Sto) (hj : JugAt j st) : Wp (sem (k + 6) F__law_right [.ref j] st) fun v st' => v = .bl true ∧ Jg j st st' := by
  have hjl := hj.lt
  rw [at__law_right, wp_def]
  simp only [D__law_right, s_sq, s_for, i_r1, a_cons, a_nil, e_c, wp_ret, start_def]
  simp
  refine wp_forN (n := 6) rfl (fun q ρ st' => Jg j st st' ∧ ∃ a1 a2 a3 a4 a5 a6 a7 a8, ρ = [some (.ref j), a1, a2, a3, a4, a5, a6, a7, a8]) ⟨.refl hj, _, _, _, _, _, _, _, _, rfl⟩ goes_name (fun q ρ st1 hq hI => ?_) (fun ρ st1 hI => ?_)
  · obtain ⟨g1, a1, a2, a3, a4, a5, a6, a7, a8, rfl⟩ := hI
    refine ⟨_, get_rng hq, ?_⟩
    simp only [g_nm, thn_nx, s_sq, s_as, List.set_cons_zero, List.set_cons_succ]
    refine Wp.mono (draw_ok (k + 2) j _ st1 g1.jug rfl) ?_ (fun _ _ z => z.elim)
    rintro v st2 ⟨⟨cs, rs, rfl, ok⟩, g2⟩
    let i := st2.length
    let S1 : Sto := st2 ++ [.ins C_Ride (fieldsV cs rs)]
    have hR : IsRide S1 st2.length cs rs := by show (st2 ++ [_])[st2.length]? = _; simp
    have gS1 : Jg j st S1 := (g1.trans g2).app _
    have c12 := ok.c2
    have r6 := ok.r2
    have r1 := ok.r1
    have q0 := makeK_ok k cs rs st2 ok
    have q1 : S1[st2.length]? = some (.ins C_Ride (fieldsV cs rs)) := hR
    have q2 := lenI_ride' (k + 4) st2.length cs rs S1 hR r6
    have q3 := boolI_ride' (k + 4) st2.length cs rs S1 hR r1 r6
    have q4 := reprI_ride' (k + 4) st2.length cs rs S1 hR c12 r6
    obtain ⟨z1, z2, t1, t2, t3, t4, t5, t6⟩ := text_eqs cs.length rs.length c12 r6
    have s6 : 6 ≤ sizeLine := by decide
    have s2 : 2 ≤ sizeLine := by decide
    have q0' : mkM (fun ys st => sem (k + 5) F_Ride___init__ (arrG .non sh_Ride___init___1_riders_costs ys [ridersV rs, costsV cs] []) st) C_Ride [] st2 = ret (.ref st2.length) S1 := q0
    clear_value S1
    simp [-m_addS, q0', q1, q2, q3, q4, f_costs, f_riders, f_told, t1, t2, t3, t4, t5, t6, s6, s2]
    have r2 : ∀ (t : Tb) (st1 : Sto), reprI t [.ref st1.length] (st1 ++ [MO.lst (seenV cs rs)]) = ret (.str (PyData.shown (.list (datMs (seenV cs rs))))) (st1 ++ [MO.lst (seenV cs rs)]) := fun t st1 => seen_repr t st1.length cs rs _ ok (list_at (by simp))
    rw [r2, wp_ret, r2, wp_ret]
    simp
    rw [cmp_ne k st2.length cs cs rs rs _ (hR.app _) ok]
    simp
    have hA : ∀ t, IsRide (S1 ++ t) st2.length cs rs := fun t => hR.app t
    rw [cmp_eqT k st2.length _ cs rs _ (hA _), wp_ret]
    simp
    unfold costsV
    rw [cmp_neT k st2.length _ cs rs _ (hA _), wp_ret]
    simp
    obtain ⟨c, t, hcs⟩ := cs_cons ok.c1
    obtain ⟨ri, r, hrs⟩ := rs_snoc ok.r1
    have e1 : ∀ st, ixM (.tup (cs.map .int)) (.int 0) st = ret (.int c) st := fun st => hcs ▸ (near_facts c t st).1
    have e2 : ∀ st, slM (.tup (cs.map .int)) (some 1) none st = ret (.tup (t.map .int)) st := fun st => hcs ▸ (near_facts c t st).2
    have e3 : ∀ st, ixM (ridersV rs) (.int (-1)) st = ret (riderV r) st := fun st => hrs ▸ (late_facts ri r st).1
    have e4 : ∀ st, slM (ridersV rs) none (some (-1)) st = ret (.tup (ri.map riderV)) st := fun st => hrs ▸ (late_facts ri r st).2
    have ht : t.length ≤ 11 := by have := ok.c2; rw [hcs] at this; simpa using this
    have hi : ri.length ≤ 5 := by have := ok.r2; rw [hrs] at this; simpa using this
    have s12 : (12 : Nat) ≤ sizeLine := by decide
    have e5 : ∀ x st, addM (.tup [.int x]) (.tup (t.map .int)) st = ret (costsV (x :: t)) st := fun x st => by
      rw [m_addT, if_pos (by simp; omega)]; rfl
    have e6 : ∀ x y z st, addM (.tup (ri.map riderV)) (.tup [.tup [.int x, .int y, .int z]]) st = ret (ridersV (ri ++ [(x, y, z)])) st := fun x y z st => by
      rw [m_addT, if_pos (by simp; omega)]; unfold ridersV; simp [riderV]
    have u7 : ∀ (st : Sto), powM (.int 10) (.int 6) st = ret (.int 1000000) st := fun _ => m_pow (by decide)
    have s3 : 3 ≤ sizeLine := by decide
    have s1 : 1 ≤ sizeLine := by decide
    have u6 : ∀ (x : Int) (st : Sto), modM (.int x) (.int 10) st = ret (.int (x % 10)) st := fun _ _ => m_mod (by decide)
    have r0 : ∀ st, ixM (riderV r) (.int 0) st = ret (.int r.1) st := fun _ => m_ixT0
    have r1' : ∀ st, ixM (riderV r) (.int 1) st = ret (.int r.2.1) st := fun _ => m_ixT1
    have r2' : ∀ st, ixM (riderV r) (.int 2) st = ret (.int r.2.2) st := fun _ => m_ixT2
    simp [e1, e2, e3, e4, e5, e6, u7, u6, s3, s1, r0, r1', r2', -m_addT]
    have x0 : 0 ≤ (r.2.2 + 1) % 10 := Int.emod_nonneg _ (by decide)
    have x1 : (r.2.2 + 1) % 10 < 10 := Int.emod_lt_of_pos _ (by decide)
    have okl : RideOk cs (ri ++ [(r.1, r.2.1, (r.2.2 + 1) % 10)]) := late_ok (hrs ▸ ok) x0 x1
    have okn : ∀ x, 0 ≤ x → x ≤ 1000000 → RideOk (x :: t) rs := fun x => near_ok (hcs ▸ ok)
    have hc1 := ok.c3 c (by rw [hcs]; simp)
    have hr1 := ok.r3 r (by rw [hrs]; simp)
    have dn : ∀ x, x ≠ c → eqV (toldV cs rs) (toldV (x :: t) rs) = false := fun x hx => eqV_ne fun e => by
      rw [hcs] at e
      simp [costsV] at e
      exact hx e.symm
    have dl : eqV (toldV cs rs) (toldV cs (ri ++ [(r.1, r.2.1, (r.2.2 + 1) % 10)])) = false := eqV_ne fun e => by
      rw [hrs] at e
      simp [ridersV, riderV] at e
      simp [riderOk] at hr1
      omega
    have gS : ∀ u, Jg j st (S1 ++ u) := fun u => gS1.app u
    have pr : plain 2 (ridersV rs) = true := plain_riders
    have en : ∀ (t : Tb) (os : List Nat) (st : Sto), neI t os (ridersV rs) (ridersV rs) st = ret (.bl false) st := fun t os st => by
      show neM (ridersV rs) (ridersV rs) st = _
      rw [ne_plain pr pr noBl_riders noBl_riders (by decide) (by decide)]
      simp
    split
    · rename_i hc
      rw [cmp_eq k _ cs _ rs _ _ (hA _) (okn _ (by omega) (by omega)), dn _ (by omega)]
      simp
      rw [show MV.tup (cs.map .int) = costsV cs from rfl, cmp_eq k _ cs _ rs _ _ (hA _) okl, dl]
      simp
      rw [make_ok k _ _ _ (okn _ (by omega) (by omega)), wp_ret]
      simp [f_riders, en, gS]
    · rename_i hc
      rw [cmp_eq k _ cs _ rs _ _ (hA _) (okn _ (by omega) (by omega)), dn _ (by omega)]
      simp
      rw [show MV.tup (cs.map .int) = costsV cs from rfl, cmp_eq k _ cs _ rs _ _ (hA _) okl, dl]
      simp
      rw [make_ok k _ _ _ (okn _ (by omega) (by omega)), wp_ret]
      simp [f_riders, en, gS]
  · obtain ⟨g1, a1, a2, a3, a4, a5, a6, a7, a8, rfl⟩ := hI
    simp
    exact g1.gcI hjl
end Kk01
namespace Kk01
open PySem PySem.Spec L2 CS
theorem law_holds : ∀ ns : List Int, ns.length ≤ 63 → ∃ st, sem 12 F_law [.ref 0] [.frz (ns.map .int)] = CS.ret (.bl true) st := by
  intro ns hns
  have key : Wp (sem 12 F_law [.ref 0] [.frz (ns.map .int)]) fun v _ => v = .bl true := by
    rw [at_law, wp_def]
    have h0 : CS.listOf [.frz (ns.map MV.int)] 0 = some (ns.map .int) := list_fr rfl
    simp [D_law, start_def, m_lenIR h0]
    generalize hm : (if 2 < (if 5 < (ns.length : Int) then 5 else (ns.length : Int)) then (if 5 < (ns.length : Int) then 5 else (ns.length : Int)) else (2 : Int)) = m
    have hb : 2 ≤ m ∧ m ≤ 5 := by
      subst hm
      split <;> split <;> omega
    refine ⟨⟨by omega, by omega⟩, by rw [sizeLine_eq]; omega, ?_⟩
    refine wp_lcN (n := m.toNat) rfl (fun q acc st' => st'[0]? = some (.frz (ns.map .int)) ∧ acc = (List.replicate q true).map .bl) ⟨rfl, rfl⟩ (fun q acc st' hq hI => ?_) (fun acc st' hI => ?_)
    · obtain ⟨hz, rfl⟩ := hI
      refine ⟨_, _, get_rng hq, rfl, ?_⟩
      simp [wipeM]
      refine Wp.quiet (jug_ok 10 0 q ns st' (list_fr hz)) ?_
      rintro v st1 ⟨j, rfl, hj, l1, l2, l3⟩
      have z0 : 0 < st'.length := (List.getElem?_eq_some_iff.mp hz).1
      try simp
      refine Wp.quiet (right_ok 5 j st1 hj) ?_
      rintro v st2 ⟨rfl, g⟩
      refine ⟨?_, ?_⟩
      · rw [g.at_ 0 (by omega) (by omega), l3 0 z0]
        exact hz
      · simp [List.replicate_succ']
    · obtain ⟨hz, rfl⟩ := hI
      refine ⟨rfl, ?_⟩
      rw [allL_map]
      simp
  obtain ⟨v, st, e, rfl⟩ := key.get
  exact ⟨st, e⟩
end Kk01
namespace Kk01
open PySem PySem.Spec PyProof.Rows L2 CS
structure Txt (A : AD) (K : PySem.W.Frag) (mg : Str → Option Value) (p : Pl) (pc : Nat → Addr) : Prop where
  f_is_integer : FnT A K mg "is_integer" F_is_integer (p.fa F_is_integer)
  f_is_between : FnT A K mg "is_between" F_is_between (p.fa F_is_between)
  f_check_costs : FnT A K mg "check_costs" F_check_costs (p.fa F_check_costs)
  f_is_rider : FnT A K mg "is_rider" F_is_rider (p.fa F_is_rider)
  f_check_riders : FnT A K mg "check_riders" F_check_riders (p.fa F_check_riders)
  f_aboard_at : FnT A K mg "aboard_at" F_aboard_at (p.fa F_aboard_at)
  f_is_crowded : FnT A K mg "is_crowded" F_is_crowded (p.fa F_is_crowded)
  f_check_stretch : FnT A K mg "check_stretch" F_check_stretch (p.fa F_check_stretch)
  f__law_jug : FnT A K mg "_law_jug" F__law_jug (p.fa F__law_jug)
  f__law_drop : FnT A K mg "_law_drop" F__law_drop (p.fa F__law_drop)
  f__law_one : FnT A K mg "_law_one" F__law_one (p.fa F__law_one)
  f__law_crowd : FnT A K mg "_law_crowd" F__law_crowd (p.fa F__law_crowd)
  f__law_trip : FnT A K mg "_law_trip" F__law_trip (p.fa F__law_trip)
  f__law_right : FnT A K mg "_law_right" F__law_right (p.fa F__law_right)
  c_Ride : ClT A K mg "Ride" C_Ride (pc C_Ride)
  mk_Ride : Mk K (pc C_Ride) (p.fa F_Ride___init__)
  k_MOST_ABOARD : ∃ w, mg "MOST_ABOARD" = some w ∧ RelV (.int 4) w
  k_MOST_BAGS : ∃ w, mg "MOST_BAGS" = some w ∧ RelV (.int 9) w
  k_MOST_COST : ∃ w, mg "MOST_COST" = some w ∧ RelV (.int 1000000) w
  k_MOST_RIDERS : ∃ w, mg "MOST_RIDERS" = some w ∧ RelV (.int 6) w
  k_MOST_STRETCHES : ∃ w, mg "MOST_STRETCHES" = some w ∧ RelV (.int 12) w
  b_abs : mg "abs" = none
  b_all : mg "all" = none
  b_any : mg "any" = none
  b_bool : mg "bool" = none
  b_divmod : mg "divmod" = none
  b_enumerate : mg "enumerate" = none
  b_int : mg "int" = none
  b_isinstance : mg "isinstance" = none
  b_len : mg "len" = none
  b_max : mg "max" = none
  b_min : mg "min" = none
  b_range : mg "range" = none
  b_repr : mg "repr" = none
  b_str : mg "str" = none
  b_tuple : mg "tuple" = none
  a_costs : FlsOk A K A_costs "costs"
  a_riders : FlsOk A K A_riders "riders"
  a_told : FlsOk A K A_told "told"
  s_len : SpT A K p "__len__" sp_len
  s_repr : SpT A K p "__repr__" sp_repr
  s_eq : SpT A K p "__eq__" sp_eq
  nf_eq : NfT A K sp_eq os_eq
  ne_eq : NeT A K sp_eq
  nb_len : NbT A K sp_len
  kt : KtOk A K kt_ kb_
  ki : ∀ k C, A.ca k = some C → (∃ e ∈ kt_, e.1.1 = .o k) ∨ (∃ e ∈ kb_, e.1.1 = k) → ClsI K C
  sh_Ride___init___1_riders_costs : ShapeOk K (p.fd F_Ride___init__) dt_Ride___init__.ps [] sh_Ride___init___1_riders_costs
section
variable {A : AD} {P : Program} {w : World} {K : PySem.W.Frag} {mg : Str → Option Value} {base : Heap} {p : Pl} {pc : Nat → Addr} {S : Nat → List MV → Sto → R MV} {l : Nat} {f : Addr} {cdv : Value} {Ar : Around} {outer : List Env} {s : Shared} {H : Hp} {E : XK}
theorem b_is_integer (T : Txt A K mg p pc) (G : Gd A (cxi dt_is_integer P w K mg base f cdv Ar outer s H E) (fun cls d _ H' => E cls d H') DT p S l) :
    PMSs A (cxi dt_is_integer P w K mg base f cdv Ar outer s H E) (fun cls d _ H' => E cls d H') (defBody dt_is_integer.st) (D_is_integer S) := by
  exact pmss_cons (pms_ret (pm_and (pm_callB (cl_isi T.kt T.ki) (by rfl) T.b_isinstance bb_isinstance (pma_cons (pm_var (i := 0) rfl (by first | exact Or.inl rfl | exact Or.inr (Or.inl rfl) | exact Or.inr (Or.inr rfl)) (by decide) (by decide)) (pma_cons (pm_typ (by rfl) T.b_int bb_int (by decide) (by decide)) (pma_nil) rfl) rfl) (by decide) (by decide) rfl rfl) (pm_one (pm_not (pm_callB (cl_isi T.kt T.ki) (by rfl) T.b_isinstance bb_isinstance (pma_cons (pm_var (i := 0) rfl (by first | exact Or.inl rfl | exact Or.inr (Or.inl rfl) | exact Or.inr (Or.inr rfl)) (by decide) (by decide)) (pma_cons (pm_typ (by rfl) T.b_bool bb_bool (by decide) (by decide)) (pma_nil) rfl) rfl) (by decide) (by decide) rfl rfl)))))
    (pmss_nil)
theorem b_is_between (T : Txt A K mg p pc) (G : Gd A (cxi dt_is_between P w K mg base f cdv Ar outer s H E) (fun cls d _ H' => E cls d H') DT p S l) :
    PMSs A (cxi dt_is_between P w K mg base f cdv Ar outer s H E) (fun cls d _ H' => E cls d H') (defBody dt_is_between.st) (D_is_between S) := by
  exact pmss_cons (pms_ret (pm_and (pm_callP (Gd.cv G F_is_integer dt_is_integer rfl) (by rfl) T.f_is_integer.mg T.f_is_integer.kp (pma_cons (pm_var (i := 0) rfl (by first | exact Or.inl rfl | exact Or.inr (Or.inl rfl) | exact Or.inr (Or.inr rfl)) (by decide) (by decide)) (pma_nil) rfl) (lenA_cons lenA_nil) (by decide) rfl rfl) (pm_one (pm_chain op_leM op_leM (pm_var (i := 1) rfl (by first | exact Or.inl rfl | exact Or.inr (Or.inl rfl) | exact Or.inr (Or.inr rfl)) (by decide) (by decide)) (pm_var (i := 0) rfl (by first | exact Or.inl rfl | exact Or.inr (Or.inl rfl) | exact Or.inr (Or.inr rfl)) (by decide) (by decide)) (pm_var (i := 2) rfl (by first | exact Or.inl rfl | exact Or.inr (Or.inl rfl) | exact Or.inr (Or.inr rfl)) (by decide) (by decide)) (by with_unfolding_all rfl)))))
    (pmss_nil)
theorem b_check_costs (T : Txt A K mg p pc) (G : Gd A (cxi dt_check_costs P w K mg base f cdv Ar outer s H E) (fun cls d _ H' => E cls d H') DT p S l) :
    PMSs A (cxi dt_check_costs P w K mg base f cdv Ar outer s H E) (fun cls d _ H' => E cls d H') (defBody dt_check_costs.st) (D_check_costs S) := by
  have nd : dt_check_costs.N.Nodup := by decide +kernel
  have hp := passes_of (X := cxi dt_check_costs P w K mg base f cdv Ar outer s H E) rfl
  exact pmss_cons (pms_if (L2.PW.pt (pmw_or (pmt_not (pmt_truth (pm_callB (cl_isi T.kt T.ki) (by rfl) T.b_isinstance bb_isinstance (pma_cons (pm_var (i := 0) rfl (by first | exact Or.inl rfl | exact Or.inr (Or.inl rfl) | exact Or.inr (Or.inr rfl)) (by decide) (by decide)) (pma_cons (pm_typ (by rfl) T.b_tuple bb_tuple (by decide) (by decide)) (pma_nil) rfl) rfl) (by decide) (by decide) rfl rfl) (fun _ => rfl))) (pmw_or1 (pmt_not (pmt_chain op_leM op_leM (pm_int) (pm_callB (cl_lenI (Gd.sp G T.s_len rfl)) (by rfl) T.b_len bb_len (pma_cons (pm_var (i := 0) rfl (by first | exact Or.inl rfl | exact Or.inr (Or.inl rfl) | exact Or.inr (Or.inr rfl)) (by decide) (by decide)) (pma_nil) rfl) (by decide) (by decide) rfl rfl) (pm_glob (by rfl) T.k_MOST_STRETCHES (fun _ _ => .int _) (by decide)) (by with_unfolding_all rfl)))))) (pmss_cons (pms_no)
    (pmss_nil)) (pmss_nil))
    (pmss_cons (pms_for hp (Gd.calm G) (pmi_enum (by rfl) T.b_enumerate (pma_cons (pm_var (i := 0) rfl (by first | exact Or.inl rfl | exact Or.inr (Or.inl rfl) | exact Or.inr (Or.inr rfl)) (by decide) (by decide)) (pma_nil) rfl) rfl) (pmg_tup (Gd.calm G) (pmgs_cons (pmg_name nd (i := 1) rfl (by first | exact Or.inl rfl | exact Or.inr rfl) (by first | exact Or.inl rfl | exact Or.inr rfl)) (pmgs_cons (pmg_name nd (i := 2) rfl (by first | exact Or.inl rfl | exact Or.inr rfl) (by first | exact Or.inl rfl | exact Or.inr rfl)) (pmgs_nil) rfl) rfl) rfl rfl) (pmss_cons (pms_if (pmt_not (pmt_truth (pm_callP (Gd.cv G F_is_between dt_is_between rfl) (by rfl) T.f_is_between.mg T.f_is_between.kp (pma_cons (pm_var (i := 2) rfl (by first | exact Or.inl rfl | exact Or.inr (Or.inl rfl) | exact Or.inr (Or.inr rfl)) (by decide) (by decide)) (pma_cons (pm_int) (pma_cons (pm_glob (by rfl) T.k_MOST_COST (fun _ _ => .int _) (by decide)) (pma_nil) rfl) rfl) rfl) (lenA_cons (lenA_cons (lenA_cons lenA_nil))) (by decide) rfl rfl) (fun _ => rfl))) (pmss_cons (pms_no)
    (pmss_nil)) (pmss_nil))
    (pmss_nil)) (fun _ => rfl))
    (pmss_nil))
theorem b_is_rider (T : Txt A K mg p pc) (G : Gd A (cxi dt_is_rider P w K mg base f cdv Ar outer s H E) (fun cls d _ H' => E cls d H') DT p S l) :
    PMSs A (cxi dt_is_rider P w K mg base f cdv Ar outer s H E) (fun cls d _ H' => E cls d H') (defBody dt_is_rider.st) (D_is_rider S) := by
  exact pmss_cons (pms_if (L2.PW.pt (pmw_or (pmt_not (pmt_truth (pm_callB (cl_isi T.kt T.ki) (by rfl) T.b_isinstance bb_isinstance (pma_cons (pm_var (i := 0) rfl (by first | exact Or.inl rfl | exact Or.inr (Or.inl rfl) | exact Or.inr (Or.inr rfl)) (by decide) (by decide)) (pma_cons (pm_typ (by rfl) T.b_tuple bb_tuple (by decide) (by decide)) (pma_nil) rfl) rfl) (by decide) (by decide) rfl rfl) (fun _ => rfl))) (pmw_or (pmt_cmp (op_neI (Gd.sp G T.s_eq rfl) T.nf_eq.ok T.ne_eq.ok (Gd.un G)) (pm_callB (cl_lenI (Gd.sp G T.s_len rfl)) (by rfl) T.b_len bb_len (pma_cons (pm_var (i := 0) rfl (by first | exact Or.inl rfl | exact Or.inr (Or.inl rfl) | exact Or.inr (Or.inr rfl)) (by decide) (by decide)) (pma_nil) rfl) (by decide) (by decide) rfl rfl) (pm_int) (nomark _)) (pmw_or1 (pmt_not (pmt_truth (pm_callP (Gd.cv G F_is_between dt_is_between rfl) (by rfl) T.f_is_between.mg T.f_is_between.kp (pma_cons (pm_ix (pm_var (i := 0) rfl (by first | exact Or.inl rfl | exact Or.inr (Or.inl rfl) | exact Or.inr (Or.inr rfl)) (by decide) (by decide)) (pm_int) (plain_ix fun _ _ _ h => nomatch h)) (pma_cons (pm_int) (pma_cons (pm_bin op_subM (pm_var (i := 1) rfl (by first | exact Or.inl rfl | exact Or.inr (Or.inl rfl) | exact Or.inr (Or.inr rfl)) (by decide) (by decide)) (pm_int)) (pma_nil) rfl) rfl) rfl) (lenA_cons (lenA_cons (lenA_cons lenA_nil))) (by decide) rfl rfl) (fun _ => rfl))))))) (pmss_cons (pms_ret (pm_bl))
    (pmss_nil)) (pmss_nil))
    (pmss_cons (pms_ret (pm_and (pm_callP (Gd.cv G F_is_between dt_is_between rfl) (by rfl) T.f_is_between.mg T.f_is_between.kp (pma_cons (pm_ix (pm_var (i := 0) rfl (by first | exact Or.inl rfl | exact Or.inr (Or.inl rfl) | exact Or.inr (Or.inr rfl)) (by decide) (by decide)) (pm_int) (plain_ix fun _ _ _ h => nomatch h)) (pma_cons (pm_bin op_addM (pm_ix (pm_var (i := 0) rfl (by first | exact Or.inl rfl | exact Or.inr (Or.inl rfl) | exact Or.inr (Or.inr rfl)) (by decide) (by decide)) (pm_int) (plain_ix fun _ _ _ h => nomatch h)) (pm_int)) (pma_cons (pm_var (i := 1) rfl (by first | exact Or.inl rfl | exact Or.inr (Or.inl rfl) | exact Or.inr (Or.inr rfl)) (by decide) (by decide)) (pma_nil) rfl) rfl) rfl) (lenA_cons (lenA_cons (lenA_cons lenA_nil))) (by decide) rfl rfl) (pm_one (pm_callP (Gd.cv G F_is_between dt_is_between rfl) (by rfl) T.f_is_between.mg T.f_is_between.kp (pma_cons (pm_ix (pm_var (i := 0) rfl (by first | exact Or.inl rfl | exact Or.inr (Or.inl rfl) | exact Or.inr (Or.inr rfl)) (by decide) (by decide)) (pm_int) (plain_ix fun _ _ _ h => nomatch h)) (pma_cons (pm_int) (pma_cons (pm_glob (by rfl) T.k_MOST_BAGS (fun _ _ => .int _) (by decide)) (pma_nil) rfl) rfl) rfl) (lenA_cons (lenA_cons (lenA_cons lenA_nil))) (by decide) rfl rfl))))
    (pmss_nil))
theorem b_check_riders (T : Txt A K mg p pc) (G : Gd A (cxi dt_check_riders P w K mg base f cdv Ar outer s H E) (fun cls d _ H' => E cls d H') DT p S l) :
    PMSs A (cxi dt_check_riders P w K mg base f cdv Ar outer s H E) (fun cls d _ H' => E cls d H') (defBody dt_check_riders.st) (D_check_riders S) := by
  have nd : dt_check_riders.N.Nodup := by decide +kernel
  have hp := passes_of (X := cxi dt_check_riders P w K mg base f cdv Ar outer s H E) rfl
  exact pmss_cons (pms_if (L2.PW.pt (pmw_or (pmt_not (pmt_truth (pm_callB (cl_isi T.kt T.ki) (by rfl) T.b_isinstance bb_isinstance (pma_cons (pm_var (i := 0) rfl (by first | exact Or.inl rfl | exact Or.inr (Or.inl rfl) | exact Or.inr (Or.inr rfl)) (by decide) (by decide)) (pma_cons (pm_typ (by rfl) T.b_tuple bb_tuple (by decide) (by decide)) (pma_nil) rfl) rfl) (by decide) (by decide) rfl rfl) (fun _ => rfl))) (pmw_or1 (pmt_not (pmt_chain op_leM op_leM (pm_int) (pm_callB (cl_lenI (Gd.sp G T.s_len rfl)) (by rfl) T.b_len bb_len (pma_cons (pm_var (i := 0) rfl (by first | exact Or.inl rfl | exact Or.inr (Or.inl rfl) | exact Or.inr (Or.inr rfl)) (by decide) (by decide)) (pma_nil) rfl) (by decide) (by decide) rfl rfl) (pm_glob (by rfl) T.k_MOST_RIDERS (fun _ _ => .int _) (by decide)) (by with_unfolding_all rfl)))))) (pmss_cons (pms_no)
    (pmss_nil)) (pmss_nil))
    (pmss_cons (pms_for hp (Gd.calm G) (pmi_enum (by rfl) T.b_enumerate (pma_cons (pm_var (i := 0) rfl (by first | exact Or.inl rfl | exact Or.inr (Or.inl rfl) | exact Or.inr (Or.inr rfl)) (by decide) (by decide)) (pma_nil) rfl) rfl) (pmg_tup (Gd.calm G) (pmgs_cons (pmg_name nd (i := 2) rfl (by first | exact Or.inl rfl | exact Or.inr rfl) (by first | exact Or.inl rfl | exact Or.inr rfl)) (pmgs_cons (pmg_name nd (i := 3) rfl (by first | exact Or.inl rfl | exact Or.inr rfl) (by first | exact Or.inl rfl | exact Or.inr rfl)) (pmgs_nil) rfl) rfl) rfl rfl) (pmss_cons (pms_if (pmt_not (pmt_truth (pm_callP (Gd.cv G F_is_rider dt_is_rider rfl) (by rfl) T.f_is_rider.mg T.f_is_rider.kp (pma_cons (pm_var (i := 3) rfl (by first | exact Or.inl rfl | exact Or.inr (Or.inl rfl) | exact Or.inr (Or.inr rfl)) (by decide) (by decide)) (pma_cons (pm_var (i := 1) rfl (by first | exact Or.inl rfl | exact Or.inr (Or.inl rfl) | exact Or.inr (Or.inr rfl)) (by decide) (by decide)) (pma_nil) rfl) rfl) (lenA_cons (lenA_cons lenA_nil)) (by decide) rfl rfl) (fun _ => rfl))) (pmss_cons (pms_no)
    (pmss_nil)) (pmss_nil))
    (pmss_nil)) (fun _ => rfl))
    (pmss_nil))
theorem b_aboard_at (T : Txt A K mg p pc) (G : Gd A (cxi dt_aboard_at P w K mg base f cdv Ar outer s H E) (fun cls d _ H' => E cls d H') DT p S l) :
    PMSs A (cxi dt_aboard_at P w K mg base f cdv Ar outer s H E) (fun cls d _ H' => E cls d H') (defBody dt_aboard_at.st) (D_aboard_at S) := by
  have nd : dt_aboard_at.N.Nodup := by decide +kernel
  exact pmss_cons (pms_ret (pm_fuseT cll_tuple (by rfl) T.b_tuple bb_tuple (pml_lc (Gd.calm G) nd (pmi_enum (by rfl) T.b_enumerate (pma_cons (pm_var (i := 0) rfl (by first | exact Or.inl rfl | exact Or.inr (Or.inl rfl) | exact Or.inr (Or.inr rfl)) (by decide) (by decide)) (pma_nil) rfl) rfl) (own := [("place", 2), ("rider", 3)]) (blkOk_by (by kernel_rfl)) (fun _ _ _ _ _ => pct_tup (Gd.calm (Gd.blk G _ _ _ _ _)) (pcn_cons nd rfl (by first | exact Or.inl rfl | exact Or.inr rfl) (by first | exact Or.inl rfl | exact Or.inr rfl) (pcn_cons nd rfl (by first | exact Or.inl rfl | exact Or.inr rfl) (by first | exact Or.inl rfl | exact Or.inr rfl) (pcn_nil) rfl) rfl) rfl rfl) (fun _ _ _ _ _ => pmts_one (pmt_chain op_leM op_ltM (pm_ix (pm_var (i := 3) rfl (by first | exact Or.inl rfl | exact Or.inr (Or.inl rfl) | exact Or.inr (Or.inr rfl)) (by decide) (by decide)) (pm_int) (plain_ix fun _ _ _ h => nomatch h)) (pm_var (i := 1) rfl (by first | exact Or.inl rfl | exact Or.inr (Or.inl rfl) | exact Or.inr (Or.inr rfl)) (by decide) (by decide)) (pm_ix (pm_var (i := 3) rfl (by first | exact Or.inl rfl | exact Or.inr (Or.inl rfl) | exact Or.inr (Or.inr rfl)) (by decide) (by decide)) (pm_int) (plain_ix fun _ _ _ h => nomatch h)) (by with_unfolding_all rfl))) (fun _ _ _ _ _ => pm_var (i := 2) rfl (by first | exact Or.inl rfl | exact Or.inr (Or.inl rfl) | exact Or.inr (Or.inr rfl)) (by decide) (by decide)) (fun _ => rfl) (by decide)) (by decide) (by decide) rfl))
    (pmss_nil)
theorem b_is_crowded (T : Txt A K mg p pc) (G : Gd A (cxi dt_is_crowded P w K mg base f cdv Ar outer s H E) (fun cls d _ H' => E cls d H') DT p S l) :
    PMSs A (cxi dt_is_crowded P w K mg base f cdv Ar outer s H E) (fun cls d _ H' => E cls d H') (defBody dt_is_crowded.st) (D_is_crowded S) := by
  have nd : dt_is_crowded.N.Nodup := by decide +kernel
  exact pmss_cons (pms_ret (pm_fuseB (cll_any (Gd.calm G)) (by rfl) T.b_any bb_any (pml_lc (Gd.calm G) nd (pmi_range1 (by rfl) T.b_range (pma_cons (pm_var (i := 0) rfl (by first | exact Or.inl rfl | exact Or.inr (Or.inl rfl) | exact Or.inr (Or.inr rfl)) (by decide) (by decide)) (pma_nil) rfl) rfl) (own := [("stretch", 2)]) (blkOk_by (by kernel_rfl)) (fun _ _ _ _ _ => pct_one nd rfl (by first | exact Or.inl rfl | exact Or.inr rfl) (by first | exact Or.inl rfl | exact Or.inr rfl)) (fun _ _ _ _ _ => pmts_nil) (fun _ _ _ _ _ => pm_cmp op_gtM (pm_callB (cl_lenI (Gd.sp (Gd.blk G _ _ _ _ _) T.s_len rfl)) (by rfl) T.b_len bb_len (pma_cons (pm_callP (Gd.cv (Gd.blk G _ _ _ _ _) F_aboard_at dt_aboard_at rfl) (by rfl) T.f_aboard_at.mg T.f_aboard_at.kp (pma_cons (pm_var (i := 1) rfl (by first | exact Or.inl rfl | exact Or.inr (Or.inl rfl) | exact Or.inr (Or.inr rfl)) (by decide) (by decide)) (pma_cons (pm_var (i := 2) rfl (by first | exact Or.inl rfl | exact Or.inr (Or.inl rfl) | exact Or.inr (Or.inr rfl)) (by decide) (by decide)) (pma_nil) rfl) rfl) (lenA_cons (lenA_cons lenA_nil)) (by decide) rfl rfl) (pma_nil) rfl) (by decide) (by decide) rfl rfl) (pm_glob (by rfl) T.k_MOST_ABOARD (fun _ _ => .int _) (by decide)) (nomark _)) (fun _ => rfl) (by decide)) (by decide) (by decide) rfl))
    (pmss_nil)
theorem b_Ride___init__ (T : Txt A K mg p pc) (G : Gd A (cxi dt_Ride___init__ P w K mg base f cdv Ar outer s H E) (fun cls d _ H' => E cls d H') DT p S l) :
    PMSs A (cxi dt_Ride___init__ P w K mg base f cdv Ar outer s H E) (fun cls d _ H' => E cls d H') (defBody dt_Ride___init__.st) (D_Ride___init__ S) := by
  exact pmss_cons (pms_expr (pm_callP (Gd.cv G F_check_costs dt_check_costs rfl) (by rfl) T.f_check_costs.mg T.f_check_costs.kp (pma_cons (pm_var (i := 1) rfl (by first | exact Or.inl rfl | exact Or.inr (Or.inl rfl) | exact Or.inr (Or.inr rfl)) (by decide) (by decide)) (pma_nil) rfl) (lenA_cons lenA_nil) (by decide) rfl rfl) rfl)
    (pmss_cons (pms_expr (pm_callP (Gd.cv G F_check_riders dt_check_riders rfl) (by rfl) T.f_check_riders.mg T.f_check_riders.kp (pma_cons (pm_var (i := 2) rfl (by first | exact Or.inl rfl | exact Or.inr (Or.inl rfl) | exact Or.inr (Or.inr rfl)) (by decide) (by decide)) (pma_cons (pm_callB (cl_lenI (Gd.sp G T.s_len rfl)) (by rfl) T.b_len bb_len (pma_cons (pm_var (i := 1) rfl (by first | exact Or.inl rfl | exact Or.inr (Or.inl rfl) | exact Or.inr (Or.inr rfl)) (by decide) (by decide)) (pma_nil) rfl) (by decide) (by decide) rfl rfl) (pma_nil) rfl) rfl) (lenA_cons (lenA_cons lenA_nil)) (by decide) rfl rfl) rfl)
    (pmss_cons (pms_if (pmt_truth (pm_callP (Gd.cv G F_is_crowded dt_is_crowded rfl) (by rfl) T.f_is_crowded.mg T.f_is_crowded.kp (pma_cons (pm_callB (cl_lenI (Gd.sp G T.s_len rfl)) (by rfl) T.b_len bb_len (pma_cons (pm_var (i := 1) rfl (by first | exact Or.inl rfl | exact Or.inr (Or.inl rfl) | exact Or.inr (Or.inr rfl)) (by decide) (by decide)) (pma_nil) rfl) (by decide) (by decide) rfl rfl) (pma_cons (pm_var (i := 2) rfl (by first | exact Or.inl rfl | exact Or.inr (Or.inl rfl) | exact Or.inr (Or.inr rfl)) (by decide) (by decide)) (pma_nil) rfl) rfl) (lenA_cons (lenA_cons lenA_nil)) (by decide) rfl rfl) (fun _ => rfl)) (pmss_cons (pms_no)
    (pmss_nil)) (pmss_nil))
    (pmss_cons (pms_fld T.a_costs (pm_var (i := 0) rfl (by first | exact Or.inl rfl | exact Or.inr (Or.inl rfl) | exact Or.inr (Or.inr rfl)) (by decide) (by decide)) (pm_var (i := 1) rfl (by first | exact Or.inl rfl | exact Or.inr (Or.inl rfl) | exact Or.inr (Or.inr rfl)) (by decide) (by decide)) rfl)
    (pmss_cons (pms_fld T.a_riders (pm_var (i := 0) rfl (by first | exact Or.inl rfl | exact Or.inr (Or.inl rfl) | exact Or.inr (Or.inr rfl)) (by decide) (by decide)) (pm_var (i := 2) rfl (by first | exact Or.inl rfl | exact Or.inr (Or.inl rfl) | exact Or.inr (Or.inr rfl)) (by decide) (by decide)) rfl)
    (pmss_cons (pms_fld T.a_told (pm_var (i := 0) rfl (by first | exact Or.inl rfl | exact Or.inr (Or.inl rfl) | exact Or.inr (Or.inr rfl)) (by decide) (by decide)) (pm_tup (pma_cons (pm_var (i := 1) rfl (by first | exact Or.inl rfl | exact Or.inr (Or.inl rfl) | exact Or.inr (Or.inr rfl)) (by decide) (by decide)) (pma_cons (pm_var (i := 2) rfl (by first | exact Or.inl rfl | exact Or.inr (Or.inl rfl) | exact Or.inr (Or.inr rfl)) (by decide) (by decide)) (pma_nil) rfl) rfl)) rfl)
    (pmss_nil))))))
theorem b_Ride_aboard (T : Txt A K mg p pc) (G : Gd A (cxi dt_Ride_aboard P w K mg base f cdv Ar outer s H E) (fun cls d _ H' => E cls d H') DT p S l) :
    PMSs A (cxi dt_Ride_aboard P w K mg base f cdv Ar outer s H E) (fun cls d _ H' => E cls d H') (defBody dt_Ride_aboard.st) (D_Ride_aboard S) := by
  exact pmss_cons (pms_expr (pm_callP (Gd.cv G F_check_stretch dt_check_stretch rfl) (by rfl) T.f_check_stretch.mg T.f_check_stretch.kp (pma_cons (pm_var (i := 1) rfl (by first | exact Or.inl rfl | exact Or.inr (Or.inl rfl) | exact Or.inr (Or.inr rfl)) (by decide) (by decide)) (pma_cons (pm_var (i := 0) rfl (by first | exact Or.inl rfl | exact Or.inr (Or.inl rfl) | exact Or.inr (Or.inr rfl)) (by decide) (by decide)) (pma_nil) rfl) rfl) (lenA_cons (lenA_cons lenA_nil)) (by decide) rfl rfl) rfl)
    (pmss_cons (pms_ret (pm_callP (Gd.cv G F_aboard_at dt_aboard_at rfl) (by rfl) T.f_aboard_at.mg T.f_aboard_at.kp (pma_cons (pm_fld T.a_riders (pm_var (i := 0) rfl (by first | exact Or.inl rfl | exact Or.inr (Or.inl rfl) | exact Or.inr (Or.inr rfl)) (by decide) (by decide)) rfl) (pma_cons (pm_var (i := 1) rfl (by first | exact Or.inl rfl | exact Or.inr (Or.inl rfl) | exact Or.inr (Or.inr rfl)) (by decide) (by decide)) (pma_nil) rfl) rfl) (lenA_cons (lenA_cons lenA_nil)) (by decide) rfl rfl))
    (pmss_nil))
theorem b_Ride_ranked (T : Txt A K mg p pc) (G : Gd A (cxi dt_Ride_ranked P w K mg base f cdv Ar outer s H E) (fun cls d _ H' => E cls d H') DT p S l) :
    PMSs A (cxi dt_Ride_ranked P w K mg base f cdv Ar outer s H E) (fun cls d _ H' => E cls d H') (defBody dt_Ride_ranked.st) (D_Ride_ranked S) := by
  exact pmss_cons (pms_no)
    (pmss_nil)
theorem b_Ride___len__ (T : Txt A K mg p pc) (G : Gd A (cxi dt_Ride___len__ P w K mg base f cdv Ar outer s H E) (fun cls d _ H' => E cls d H') DT p S l) :
    PMSs A (cxi dt_Ride___len__ P w K mg base f cdv Ar outer s H E) (fun cls d _ H' => E cls d H') (defBody dt_Ride___len__.st) (D_Ride___len__ S) := by
  exact pmss_cons (pms_ret (pm_callB (cl_lenI (Gd.sp G T.s_len rfl)) (by rfl) T.b_len bb_len (pma_cons (pm_fld T.a_riders (pm_var (i := 0) rfl (by first | exact Or.inl rfl | exact Or.inr (Or.inl rfl) | exact Or.inr (Or.inr rfl)) (by decide) (by decide)) rfl) (pma_nil) rfl) (by decide) (by decide) rfl rfl))
    (pmss_nil)
theorem b_Ride___eq__ (T : Txt A K mg p pc) (G : Gd A (cxi dt_Ride___eq__ P w K mg base f cdv Ar outer s H E) (fun cls d _ H' => E cls d H') DT p S l) :
    PMSs A (cxi dt_Ride___eq__ P w K mg base f cdv Ar outer s H E) (fun cls d _ H' => E cls d H') (defBody dt_Ride___eq__.st) (D_Ride___eq__ S) := by
  exact pmss_cons (pms_ret (pm_and (pm_callB (cl_isi T.kt T.ki) (by rfl) T.b_isinstance bb_isinstance (pma_cons (pm_var (i := 1) rfl (by first | exact Or.inl rfl | exact Or.inr (Or.inl rfl) | exact Or.inr (Or.inr rfl)) (by decide) (by decide)) (pma_cons (pm_cls (by rfl) T.c_Ride.mg T.c_Ride.ca (by decide)) (pma_nil) rfl) rfl) (by decide) (by decide) rfl rfl) (pm_one (pm_cmp (op_eqI (Gd.sp G T.s_eq rfl) T.nf_eq.ok (Gd.un G)) (pm_fld T.a_told (pm_var (i := 0) rfl (by first | exact Or.inl rfl | exact Or.inr (Or.inl rfl) | exact Or.inr (Or.inr rfl)) (by decide) (by decide)) rfl) (pm_fld T.a_told (pm_var (i := 1) rfl (by first | exact Or.inl rfl | exact Or.inr (Or.inl rfl) | exact Or.inr (Or.inr rfl)) (by decide) (by decide)) rfl) (nomark _)))))
    (pmss_nil)
theorem b_Ride___repr__ (T : Txt A K mg p pc) (G : Gd A (cxi dt_Ride___repr__ P w K mg base f cdv Ar outer s H E) (fun cls d _ H' => E cls d H') DT p S l) :
    PMSs A (cxi dt_Ride___repr__ P w K mg base f cdv Ar outer s H E) (fun cls d _ H' => E cls d H') (defBody dt_Ride___repr__.st) (D_Ride___repr__ S) := by
  exact pmss_cons (pms_ret (pm_join (.cons (pm_str) (.cons (pm_fmt (pm_callB (cl_lenI (Gd.sp G T.s_len rfl)) (by rfl) T.b_len bb_len (pma_cons (pm_fld T.a_costs (pm_var (i := 0) rfl (by first | exact Or.inl rfl | exact Or.inr (Or.inl rfl) | exact Or.inr (Or.inr rfl)) (by decide) (by decide)) rfl) (pma_nil) rfl) (by decide) (by decide) rfl rfl)) (.cons (pm_str) (.cons (pm_fmt (pm_callB (cl_lenI (Gd.sp G T.s_len rfl)) (by rfl) T.b_len bb_len (pma_cons (pm_fld T.a_riders (pm_var (i := 0) rfl (by first | exact Or.inl rfl | exact Or.inr (Or.inl rfl) | exact Or.inr (Or.inr rfl)) (by decide) (by decide)) rfl) (pma_nil) rfl) (by decide) (by decide) rfl rfl)) (.cons (pm_str) .nil)))))))
    (pmss_nil)
theorem b_check_stretch (T : Txt A K mg p pc) (G : Gd A (cxi dt_check_stretch P w K mg base f cdv Ar outer s H E) (fun cls d _ H' => E cls d H') DT p S l) :
    PMSs A (cxi dt_check_stretch P w K mg base f cdv Ar outer s H E) (fun cls d _ H' => E cls d H') (defBody dt_check_stretch.st) (D_check_stretch S) := by
  exact pmss_cons (pms_if (pmt_not (pmt_truth (pm_callP (Gd.cv G F_is_between dt_is_between rfl) (by rfl) T.f_is_between.mg T.f_is_between.kp (pma_cons (pm_var (i := 0) rfl (by first | exact Or.inl rfl | exact Or.inr (Or.inl rfl) | exact Or.inr (Or.inr rfl)) (by decide) (by decide)) (pma_cons (pm_int) (pma_cons (pm_bin op_subM (pm_callB (cl_lenI (Gd.sp G T.s_len rfl)) (by rfl) T.b_len bb_len (pma_cons (pm_fld T.a_costs (pm_var (i := 1) rfl (by first | exact Or.inl rfl | exact Or.inr (Or.inl rfl) | exact Or.inr (Or.inr rfl)) (by decide) (by decide)) rfl) (pma_nil) rfl) (by decide) (by decide) rfl rfl) (pm_int)) (pma_nil) rfl) rfl) rfl) (lenA_cons (lenA_cons (lenA_cons lenA_nil))) (by decide) rfl rfl) (fun _ => rfl))) (pmss_cons (pms_no)
    (pmss_nil)) (pmss_nil))
    (pmss_nil)
theorem b__law_jug (T : Txt A K mg p pc) (G : Gd A (cxi dt__law_jug P w K mg base f cdv Ar outer s H E) (fun cls d _ H' => E cls d H') DT p S l) :
    PMSs A (cxi dt__law_jug P w K mg base f cdv Ar outer s H E) (fun cls d _ H' => E cls d H') (defBody dt__law_jug.st) (D__law_jug S) := by
  have nd : dt__law_jug.N.Nodup := by decide +kernel
  have hp := passes_of (X := cxi dt__law_jug P w K mg base f cdv Ar outer s H E) rfl
  exact pmss_cons (pms_asg (pm_if (pmt_cmp op_ltM (pm_var (i := 1) rfl (by first | exact Or.inl rfl | exact Or.inr (Or.inl rfl) | exact Or.inr (Or.inr rfl)) (by decide) (by decide)) (pm_callB (cl_lenI (Gd.sp G T.s_len rfl)) (by rfl) T.b_len bb_len (pma_cons (pm_var (i := 0) rfl (by first | exact Or.inl rfl | exact Or.inr (Or.inl rfl) | exact Or.inr (Or.inr rfl)) (by decide) (by decide)) (pma_nil) rfl) (by decide) (by decide) rfl rfl) (nomark _)) (pm_callT cl_int (by rfl) T.b_int bb_int (pma_cons (pm_ix (pm_var (i := 0) rfl (by first | exact Or.inl rfl | exact Or.inr (Or.inl rfl) | exact Or.inr (Or.inr rfl)) (by decide) (by decide)) (pm_var (i := 1) rfl (by first | exact Or.inl rfl | exact Or.inr (Or.inl rfl) | exact Or.inr (Or.inr rfl)) (by decide) (by decide)) (plain_ix fun _ _ _ h => nomatch h)) (pma_nil) rfl) (by decide) (by decide) rfl rfl) (pm_bin op_addM (pm_bin op_mulM (pm_int) (pm_var (i := 1) rfl (by first | exact Or.inl rfl | exact Or.inr (Or.inl rfl) | exact Or.inr (Or.inr rfl)) (by decide) (by decide))) (pm_int))) (pmg_name nd (i := 2) rfl (by first | exact Or.inl rfl | exact Or.inr rfl) (by first | exact Or.inl rfl | exact Or.inr rfl)) goes_name rfl rfl rfl)
    (pmss_cons (pms_asg (pm_bin op_addM (pm_int) (pm_bin op_mulM (pm_int) (pm_var (i := 1) rfl (by first | exact Or.inl rfl | exact Or.inr (Or.inl rfl) | exact Or.inr (Or.inr rfl)) (by decide) (by decide)))) (pmg_name nd (i := 3) rfl (by first | exact Or.inl rfl | exact Or.inr rfl) (by first | exact Or.inl rfl | exact Or.inr rfl)) goes_name rfl rfl rfl)
    (pmss_cons (pms_for hp (Gd.calm G) (pmi_seq (pm_slice (pm_var (i := 0) rfl (by first | exact Or.inl rfl | exact Or.inr (Or.inl rfl) | exact Or.inr (Or.inr rfl)) (by decide) (by decide)) (pmo_none) (pmo_some (pm_int)))) (pmg_name nd (i := 4) rfl (by first | exact Or.inl rfl | exact Or.inr rfl) (by first | exact Or.inl rfl | exact Or.inr rfl)) (pmss_cons (pms_asg (pm_bin op_modM (pm_callT cl_int (by rfl) T.b_int bb_int (pma_cons (pm_bin op_addM (pm_bin op_mulM (pm_var (i := 3) rfl (by first | exact Or.inl rfl | exact Or.inr (Or.inl rfl) | exact Or.inr (Or.inr rfl)) (by decide) (by decide)) (pm_int)) (pm_bin op_modM (pm_callT cl_int (by rfl) T.b_int bb_int (pma_cons (pm_var (i := 4) rfl (by first | exact Or.inl rfl | exact Or.inr (Or.inl rfl) | exact Or.inr (Or.inr rfl)) (by decide) (by decide)) (pma_nil) rfl) (by decide) (by decide) rfl rfl) (pm_int))) (pma_nil) rfl) (by decide) (by decide) rfl rfl) (pm_int)) (pmg_name nd (i := 3) rfl (by first | exact Or.inl rfl | exact Or.inr rfl) (by first | exact Or.inl rfl | exact Or.inr rfl)) goes_name rfl rfl rfl)
    (pmss_nil)) (fun _ => rfl))
    (pmss_cons (pms_ret (pm_lst (pma_cons (pm_bin op_modM (pm_callT cl_int (by rfl) T.b_int bb_int (pma_cons (pm_bin op_addM (pm_bin op_mulM (pm_var (i := 3) rfl (by first | exact Or.inl rfl | exact Or.inr (Or.inl rfl) | exact Or.inr (Or.inr rfl)) (by decide) (by decide)) (pm_int)) (pm_bin op_modM (pm_var (i := 2) rfl (by first | exact Or.inl rfl | exact Or.inr (Or.inl rfl) | exact Or.inr (Or.inr rfl)) (by decide) (by decide)) (pm_int))) (pma_nil) rfl) (by decide) (by decide) rfl rfl) (pm_int)) (pma_cons (pm_if (L2.PW.pt (pmw_or (pmt_cmp op_ltM (pm_var (i := 2) rfl (by first | exact Or.inl rfl | exact Or.inr (Or.inl rfl) | exact Or.inr (Or.inr rfl)) (by decide) (by decide)) (pm_int) (nomark _)) (pmw_or1 (pmt_cmp op_geM (pm_var (i := 2) rfl (by first | exact Or.inl rfl | exact Or.inr (Or.inl rfl) | exact Or.inr (Or.inr rfl)) (by decide) (by decide)) (pm_bin op_powM (pm_int) (pm_int)) (nomark _))))) (pm_callB cl_abs (by rfl) T.b_abs bb_abs (pma_cons (pm_var (i := 2) rfl (by first | exact Or.inl rfl | exact Or.inr (Or.inl rfl) | exact Or.inr (Or.inr rfl)) (by decide) (by decide)) (pma_nil) rfl) (by decide) (by decide) rfl rfl) (pm_int)) (pma_cons (pm_int) (pma_nil) rfl) rfl) rfl)))
    (pmss_nil))))
theorem b__law_drop (T : Txt A K mg p pc) (G : Gd A (cxi dt__law_drop P w K mg base f cdv Ar outer s H E) (fun cls d _ H' => E cls d H') DT p S l) :
    PMSs A (cxi dt__law_drop P w K mg base f cdv Ar outer s H E) (fun cls d _ H' => E cls d H') (defBody dt__law_drop.st) (D__law_drop S) := by
  have nd : dt__law_drop.N.Nodup := by decide +kernel
  exact pmss_cons (pms_asg (pm_bin op_addM (pm_ix (pm_var (i := 0) rfl (by first | exact Or.inl rfl | exact Or.inr (Or.inl rfl) | exact Or.inr (Or.inr rfl)) (by decide) (by decide)) (pm_int) (plain_ix fun _ _ _ h => nomatch h)) (pm_int)) (pmg_sub (pm_var (i := 0) rfl (by first | exact Or.inl rfl | exact Or.inr (Or.inl rfl) | exact Or.inr (Or.inr rfl)) (by decide) (by decide)) (pm_int) (fun _ => rfl)) goes_sub rfl rfl rfl)
    (pmss_cons (pms_if (pmt_cmp op_gtM (pm_ix (pm_var (i := 0) rfl (by first | exact Or.inl rfl | exact Or.inr (Or.inl rfl) | exact Or.inr (Or.inr rfl)) (by decide) (by decide)) (pm_int) (plain_ix fun _ _ _ h => nomatch h)) (pm_int) (nomark _)) (pmss_cons (pms_asg (pm_callB cl_divmod (by rfl) T.b_divmod bb_divmod (pma_cons (pm_callT cl_int (by rfl) T.b_int bb_int (pma_cons (pm_ix (pm_var (i := 0) rfl (by first | exact Or.inl rfl | exact Or.inr (Or.inl rfl) | exact Or.inr (Or.inr rfl)) (by decide) (by decide)) (pm_int) (plain_ix fun _ _ _ h => nomatch h)) (pma_nil) rfl) (by decide) (by decide) rfl rfl) (pma_cons (pm_var (i := 1) rfl (by first | exact Or.inl rfl | exact Or.inr (Or.inl rfl) | exact Or.inr (Or.inr rfl)) (by decide) (by decide)) (pma_nil) rfl) rfl) (by decide) (by decide) rfl rfl) (pmg_tup (Gd.calm G) (pmgs_cons (pmg_sub (pm_var (i := 0) rfl (by first | exact Or.inl rfl | exact Or.inr (Or.inl rfl) | exact Or.inr (Or.inr rfl)) (by decide) (by decide)) (pm_int) (fun _ => rfl)) (pmgs_cons (pmg_name nd (i := 2) rfl (by first | exact Or.inl rfl | exact Or.inr rfl) (by first | exact Or.inl rfl | exact Or.inr rfl)) (pmgs_nil) rfl) rfl) rfl rfl) (goes_tup (goes_cons goes_sub (goes_cons goes_name (goes_nil)))) rfl rfl rfl)
    (pmss_cons (pms_ret (pm_var (i := 2) rfl (by first | exact Or.inl rfl | exact Or.inr (Or.inl rfl) | exact Or.inr (Or.inr rfl)) (by decide) (by decide)))
    (pmss_nil))) (pmss_nil))
    (pmss_cons (pms_asg (pm_bin op_modM (pm_callT cl_int (by rfl) T.b_int bb_int (pma_cons (pm_bin op_addM (pm_bin op_addM (pm_bin op_mulM (pm_ix (pm_var (i := 0) rfl (by first | exact Or.inl rfl | exact Or.inr (Or.inl rfl) | exact Or.inr (Or.inr rfl)) (by decide) (by decide)) (pm_int) (plain_ix fun _ _ _ h => nomatch h)) (pm_int)) (pm_bin op_mulM (pm_ix (pm_var (i := 0) rfl (by first | exact Or.inl rfl | exact Or.inr (Or.inl rfl) | exact Or.inr (Or.inr rfl)) (by decide) (by decide)) (pm_int) (plain_ix fun _ _ _ h => nomatch h)) (pm_int))) (pm_bin op_mulM (pm_bin op_divM (pm_ix (pm_var (i := 0) rfl (by first | exact Or.inl rfl | exact Or.inr (Or.inl rfl) | exact Or.inr (Or.inr rfl)) (by decide) (by decide)) (pm_int) (plain_ix fun _ _ _ h => nomatch h)) (pm_int)) (pm_int))) (pma_nil) rfl) (by decide) (by decide) rfl rfl) (pm_int)) (pmg_sub (pm_var (i := 0) rfl (by first | exact Or.inl rfl | exact Or.inr (Or.inl rfl) | exact Or.inr (Or.inr rfl)) (by decide) (by decide)) (pm_int) (fun _ => rfl)) goes_sub rfl rfl rfl)
    (pmss_cons (pms_ret (pm_bin op_modM (pm_callT cl_int (by rfl) T.b_int bb_int (pma_cons (pm_bin op_divM (pm_ix (pm_var (i := 0) rfl (by first | exact Or.inl rfl | exact Or.inr (Or.inl rfl) | exact Or.inr (Or.inr rfl)) (by decide) (by decide)) (pm_int) (plain_ix fun _ _ _ h => nomatch h)) (pm_int)) (pma_nil) rfl) (by decide) (by decide) rfl rfl) (pm_var (i := 1) rfl (by first | exact Or.inl rfl | exact Or.inr (Or.inl rfl) | exact Or.inr (Or.inr rfl)) (by decide) (by decide))))
    (pmss_nil))))
theorem b__law_one (T : Txt A K mg p pc) (G : Gd A (cxi dt__law_one P w K mg base f cdv Ar outer s H E) (fun cls d _ H' => E cls d H') DT p S l) :
    PMSs A (cxi dt__law_one P w K mg base f cdv Ar outer s H E) (fun cls d _ H' => E cls d H') (defBody dt__law_one.st) (D__law_one S) := by
  exact pmss_cons (pms_ret (pm_ix (pm_var (i := 1) rfl (by first | exact Or.inl rfl | exact Or.inr (Or.inl rfl) | exact Or.inr (Or.inr rfl)) (by decide) (by decide)) (pm_callP (Gd.cv G F__law_drop dt__law_drop rfl) (by rfl) T.f__law_drop.mg T.f__law_drop.kp (pma_cons (pm_var (i := 0) rfl (by first | exact Or.inl rfl | exact Or.inr (Or.inl rfl) | exact Or.inr (Or.inr rfl)) (by decide) (by decide)) (pma_cons (pm_callB (cl_lenI (Gd.sp G T.s_len rfl)) (by rfl) T.b_len bb_len (pma_cons (pm_var (i := 1) rfl (by first | exact Or.inl rfl | exact Or.inr (Or.inl rfl) | exact Or.inr (Or.inr rfl)) (by decide) (by decide)) (pma_nil) rfl) (by decide) (by decide) rfl rfl) (pma_nil) rfl) rfl) (lenA_cons (lenA_cons lenA_nil)) (by decide) rfl rfl) (plain_ix fun _ _ _ h => nomatch h)))
    (pmss_nil)
theorem b__law_crowd (T : Txt A K mg p pc) (G : Gd A (cxi dt__law_crowd P w K mg base f cdv Ar outer s H E) (fun cls d _ H' => E cls d H') DT p S l) :
    PMSs A (cxi dt__law_crowd P w K mg base f cdv Ar outer s H E) (fun cls d _ H' => E cls d H') (defBody dt__law_crowd.st) (D__law_crowd S) := by
  have nd : dt__law_crowd.N.Nodup := by decide +kernel
  exact pmss_cons (pms_ret (pm_new (pml_lc (Gd.calm G) nd (pmi_range1 (by rfl) T.b_range (pma_cons (pm_callB (cl_lenI (Gd.sp G T.s_len rfl)) (by rfl) T.b_len bb_len (pma_cons (pm_var (i := 0) rfl (by first | exact Or.inl rfl | exact Or.inr (Or.inl rfl) | exact Or.inr (Or.inr rfl)) (by decide) (by decide)) (pma_nil) rfl) (by decide) (by decide) rfl rfl) (pma_nil) rfl) rfl) (own := [("_law_k", 2)]) (blkOk_by (by kernel_rfl)) (fun _ _ _ _ _ => pct_one nd rfl (by first | exact Or.inl rfl | exact Or.inr rfl) (by first | exact Or.inl rfl | exact Or.inr rfl)) (fun _ _ _ _ _ => pmts_one (pmt_chain op_leM op_ltM (pm_ix (pm_ix (pm_var (i := 0) rfl (by first | exact Or.inl rfl | exact Or.inr (Or.inl rfl) | exact Or.inr (Or.inr rfl)) (by decide) (by decide)) (pm_var (i := 2) rfl (by first | exact Or.inl rfl | exact Or.inr (Or.inl rfl) | exact Or.inr (Or.inr rfl)) (by decide) (by decide)) (plain_ix fun _ _ _ h => nomatch h)) (pm_int) (plain_ix fun _ _ _ h => nomatch h)) (pm_var (i := 1) rfl (by first | exact Or.inl rfl | exact Or.inr (Or.inl rfl) | exact Or.inr (Or.inr rfl)) (by decide) (by decide)) (pm_ix (pm_ix (pm_var (i := 0) rfl (by first | exact Or.inl rfl | exact Or.inr (Or.inl rfl) | exact Or.inr (Or.inr rfl)) (by decide) (by decide)) (pm_var (i := 2) rfl (by first | exact Or.inl rfl | exact Or.inr (Or.inl rfl) | exact Or.inr (Or.inr rfl)) (by decide) (by decide)) (plain_ix fun _ _ _ h => nomatch h)) (pm_int) (plain_ix fun _ _ _ h => nomatch h)) (by with_unfolding_all rfl))) (fun _ _ _ _ _ => pm_var (i := 2) rfl (by first | exact Or.inl rfl | exact Or.inr (Or.inl rfl) | exact Or.inr (Or.inr rfl)) (by decide) (by decide)) (fun _ => rfl) (by decide))))
    (pmss_nil)
theorem b__law_trip (T : Txt A K mg p pc) (G : Gd A (cxi dt__law_trip P w K mg base f cdv Ar outer s H E) (fun cls d _ H' => E cls d H') DT p S l) :
    PMSs A (cxi dt__law_trip P w K mg base f cdv Ar outer s H E) (fun cls d _ H' => E cls d H') (defBody dt__law_trip.st) (D__law_trip S) := by
  have nd : dt__law_trip.N.Nodup := by decide +kernel
  have hp := passes_of (X := cxi dt__law_trip P w K mg base f cdv Ar outer s H E) rfl
  exact pmss_cons (pms_asg (pm_bin op_addM (pm_int) (pm_callP (Gd.cv G F__law_drop dt__law_drop rfl) (by rfl) T.f__law_drop.mg T.f__law_drop.kp (pma_cons (pm_var (i := 0) rfl (by first | exact Or.inl rfl | exact Or.inr (Or.inl rfl) | exact Or.inr (Or.inr rfl)) (by decide) (by decide)) (pma_cons (pm_var (i := 1) rfl (by first | exact Or.inl rfl | exact Or.inr (Or.inl rfl) | exact Or.inr (Or.inr rfl)) (by decide) (by decide)) (pma_nil) rfl) rfl) (lenA_cons (lenA_cons lenA_nil)) (by decide) rfl rfl)) (pmg_name nd (i := 2) rfl (by first | exact Or.inl rfl | exact Or.inr rfl) (by first | exact Or.inl rfl | exact Or.inr rfl)) goes_name rfl rfl rfl)
    (pmss_cons (pms_setLc (Gd.calm G) nd (i := 3) rfl rfl (sw_true rfl rfl rfl rfl) (pmi_range1 (by rfl) T.b_range (pma_cons (pm_var (i := 2) rfl (by first | exact Or.inl rfl | exact Or.inr (Or.inl rfl) | exact Or.inr (Or.inr rfl)) (by decide) (by decide)) (pma_nil) rfl) rfl) (own := [("_law_t", 8)]) (blkOk_by (by kernel_rfl)) (fun _ _ _ _ _ => pct_one nd rfl (by first | exact Or.inl rfl | exact Or.inr rfl) (by first | exact Or.inl rfl | exact Or.inr rfl)) (fun _ _ _ _ _ => pmts_nil) (fun _ _ _ _ _ => pm_callP (Gd.cv (Gd.blk G _ _ _ _ _) F__law_one dt__law_one rfl) (by rfl) T.f__law_one.mg T.f__law_one.kp (pma_cons (pm_var (i := 0) rfl (by first | exact Or.inl rfl | exact Or.inr (Or.inl rfl) | exact Or.inr (Or.inr rfl)) (by decide) (by decide)) (pma_cons (pm_lst (pma_cons (pm_int) (pma_cons (pm_int) (pma_cons (pm_int) (pma_cons (pm_int) (pma_cons (pm_int) (pma_cons (pm_bin op_addM (pm_int) (pm_callP (Gd.cv (Gd.blk G _ _ _ _ _) F__law_drop dt__law_drop rfl) (by rfl) T.f__law_drop.mg T.f__law_drop.kp (pma_cons (pm_var (i := 0) rfl (by first | exact Or.inl rfl | exact Or.inr (Or.inl rfl) | exact Or.inr (Or.inr rfl)) (by decide) (by decide)) (pma_cons (pm_int) (pma_nil) rfl) rfl) (lenA_cons (lenA_cons lenA_nil)) (by decide) rfl rfl)) (pma_nil) rfl) rfl) rfl) rfl) rfl) rfl)) (pma_nil) rfl) rfl) (lenA_cons (lenA_cons lenA_nil)) (by decide) rfl rfl) (fun _ => rfl) (by decide))
    (pmss_cons (pms_asg (pm_lst (pma_nil)) (pmg_name nd (i := 4) rfl (by first | exact Or.inl rfl | exact Or.inr rfl) (by first | exact Or.inl rfl | exact Or.inr rfl)) goes_name rfl rfl rfl)
    (pmss_cons (pms_for hp (Gd.calm G) (pmi_range1 (by rfl) T.b_range (pma_cons (pm_bin op_addM (pm_int) (pm_callP (Gd.cv G F__law_drop dt__law_drop rfl) (by rfl) T.f__law_drop.mg T.f__law_drop.kp (pma_cons (pm_var (i := 0) rfl (by first | exact Or.inl rfl | exact Or.inr (Or.inl rfl) | exact Or.inr (Or.inr rfl)) (by decide) (by decide)) (pma_cons (pm_int) (pma_nil) rfl) rfl) (lenA_cons (lenA_cons lenA_nil)) (by decide) rfl rfl)) (pma_nil) rfl) rfl) (pmg_name nd (i := 5) rfl (by first | exact Or.inl rfl | exact Or.inr rfl) (by first | exact Or.inl rfl | exact Or.inr rfl)) (pmss_cons (pms_asg (pm_callP (Gd.cv G F__law_drop dt__law_drop rfl) (by rfl) T.f__law_drop.mg T.f__law_drop.kp (pma_cons (pm_var (i := 0) rfl (by first | exact Or.inl rfl | exact Or.inr (Or.inl rfl) | exact Or.inr (Or.inr rfl)) (by decide) (by decide)) (pma_cons (pm_var (i := 2) rfl (by first | exact Or.inl rfl | exact Or.inr (Or.inl rfl) | exact Or.inr (Or.inr rfl)) (by decide) (by decide)) (pma_nil) rfl) rfl) (lenA_cons (lenA_cons lenA_nil)) (by decide) rfl rfl) (pmg_name nd (i := 6) rfl (by first | exact Or.inl rfl | exact Or.inr rfl) (by first | exact Or.inl rfl | exact Or.inr rfl)) goes_name rfl rfl rfl)
    (pmss_cons (pms_asg (pm_bin op_addM (pm_var (i := 4) rfl (by first | exact Or.inl rfl | exact Or.inr (Or.inl rfl) | exact Or.inr (Or.inr rfl)) (by decide) (by decide)) (pm_lst (pma_cons (pm_tup (pma_cons (pm_var (i := 6) rfl (by first | exact Or.inl rfl | exact Or.inr (Or.inl rfl) | exact Or.inr (Or.inr rfl)) (by decide) (by decide)) (pma_cons (pm_bin op_addM (pm_bin op_addM (pm_var (i := 6) rfl (by first | exact Or.inl rfl | exact Or.inr (Or.inl rfl) | exact Or.inr (Or.inr rfl)) (by decide) (by decide)) (pm_int)) (pm_callP (Gd.cv G F__law_drop dt__law_drop rfl) (by rfl) T.f__law_drop.mg T.f__law_drop.kp (pma_cons (pm_var (i := 0) rfl (by first | exact Or.inl rfl | exact Or.inr (Or.inl rfl) | exact Or.inr (Or.inr rfl)) (by decide) (by decide)) (pma_cons (pm_bin op_subM (pm_var (i := 2) rfl (by first | exact Or.inl rfl | exact Or.inr (Or.inl rfl) | exact Or.inr (Or.inr rfl)) (by decide) (by decide)) (pm_var (i := 6) rfl (by first | exact Or.inl rfl | exact Or.inr (Or.inl rfl) | exact Or.inr (Or.inr rfl)) (by decide) (by decide))) (pma_nil) rfl) rfl) (lenA_cons (lenA_cons lenA_nil)) (by decide) rfl rfl)) (pma_cons (pm_callP (Gd.cv G F__law_drop dt__law_drop rfl) (by rfl) T.f__law_drop.mg T.f__law_drop.kp (pma_cons (pm_var (i := 0) rfl (by first | exact Or.inl rfl | exact Or.inr (Or.inl rfl) | exact Or.inr (Or.inr rfl)) (by decide) (by decide)) (pma_cons (pm_int) (pma_nil) rfl) rfl) (lenA_cons (lenA_cons lenA_nil)) (by decide) rfl rfl) (pma_nil) rfl) rfl) rfl)) (pma_nil) rfl))) (pmg_name nd (i := 7) rfl (by first | exact Or.inl rfl | exact Or.inr rfl) (by first | exact Or.inl rfl | exact Or.inr rfl)) goes_name rfl rfl rfl)
    (pmss_cons (pms_if (pmt_truth (pm_fuseB (cll_all (Gd.calm G)) (by rfl) T.b_all bb_all (pml_lc (Gd.calm G) nd (pmi_range1 (by rfl) T.b_range (pma_cons (pm_var (i := 2) rfl (by first | exact Or.inl rfl | exact Or.inr (Or.inl rfl) | exact Or.inr (Or.inr rfl)) (by decide) (by decide)) (pma_nil) rfl) rfl) (own := [("_law_t", 8)]) (blkOk_by (by kernel_rfl)) (fun _ _ _ _ _ => pct_one nd rfl (by first | exact Or.inl rfl | exact Or.inr rfl) (by first | exact Or.inl rfl | exact Or.inr rfl)) (fun _ _ _ _ _ => pmts_nil) (fun _ _ _ _ _ => pm_cmp op_leM (pm_callB (cl_lenI (Gd.sp (Gd.blk G _ _ _ _ _) T.s_len rfl)) (by rfl) T.b_len bb_len (pma_cons (pm_callP (Gd.cv (Gd.blk G _ _ _ _ _) F__law_crowd dt__law_crowd rfl) (by rfl) T.f__law_crowd.mg T.f__law_crowd.kp (pma_cons (pm_var (i := 7) rfl (by first | exact Or.inl rfl | exact Or.inr (Or.inl rfl) | exact Or.inr (Or.inr rfl)) (by decide) (by decide)) (pma_cons (pm_var (i := 8) rfl (by first | exact Or.inl rfl | exact Or.inr (Or.inl rfl) | exact Or.inr (Or.inr rfl)) (by decide) (by decide)) (pma_nil) rfl) rfl) (lenA_cons (lenA_cons lenA_nil)) (by decide) rfl rfl) (pma_nil) rfl) (by decide) (by decide) rfl rfl) (pm_int) (nomark _)) (fun _ => rfl) (by decide)) (by decide) (by decide) rfl) (fun _ => rfl)) (pmss_cons (pms_asg (pm_var (i := 7) rfl (by first | exact Or.inl rfl | exact Or.inr (Or.inl rfl) | exact Or.inr (Or.inr rfl)) (by decide) (by decide)) (pmg_name nd (i := 4) rfl (by first | exact Or.inl rfl | exact Or.inr rfl) (by first | exact Or.inl rfl | exact Or.inr rfl)) goes_name rfl rfl rfl)
    (pmss_nil)) (pmss_nil))
    (pmss_nil)))) (fun _ => rfl))
    (pmss_cons (pms_ret (pm_tup (pma_cons (pm_callT cl_tuple (by rfl) T.b_tuple bb_tuple (pma_cons (pm_var (i := 3) rfl (by first | exact Or.inl rfl | exact Or.inr (Or.inl rfl) | exact Or.inr (Or.inr rfl)) (by decide) (by decide)) (pma_nil) rfl) (by decide) (by decide) rfl rfl) (pma_cons (pm_callT cl_tuple (by rfl) T.b_tuple bb_tuple (pma_cons (pm_var (i := 4) rfl (by first | exact Or.inl rfl | exact Or.inr (Or.inl rfl) | exact Or.inr (Or.inr rfl)) (by decide) (by decide)) (pma_nil) rfl) (by decide) (by decide) rfl rfl) (pma_nil) rfl) rfl)))
    (pmss_nil)))))
theorem b__law_right (T : Txt A K mg p pc) (G : Gd A (cxi dt__law_right P w K mg base f cdv Ar outer s H E) (fun cls d _ H' => E cls d H') DT p S l) :
    PMSs A (cxi dt__law_right P w K mg base f cdv Ar outer s H E) (fun cls d _ H' => E cls d H') (defBody dt__law_right.st) (D__law_right S) := by
  have nd : dt__law_right.N.Nodup := by decide +kernel
  have hp := passes_of (X := cxi dt__law_right P w K mg base f cdv Ar outer s H E) rfl
  exact pmss_cons (pms_for hp (Gd.calm G) (pmi_range1 (by rfl) T.b_range (pma_cons (pm_int) (pma_nil) rfl) rfl) (pmg_name nd (i := 1) rfl (by first | exact Or.inl rfl | exact Or.inr rfl) (by first | exact Or.inl rfl | exact Or.inr rfl)) (pmss_cons (pms_asg (pm_callP (Gd.cv G F__law_one dt__law_one rfl) (by rfl) T.f__law_one.mg T.f__law_one.kp (pma_cons (pm_var (i := 0) rfl (by first | exact Or.inl rfl | exact Or.inr (Or.inl rfl) | exact Or.inr (Or.inr rfl)) (by decide) (by decide)) (pma_cons (pm_lst (pma_cons (pm_callP (Gd.cv G F__law_trip dt__law_trip rfl) (by rfl) T.f__law_trip.mg T.f__law_trip.kp (pma_cons (pm_var (i := 0) rfl (by first | exact Or.inl rfl | exact Or.inr (Or.inl rfl) | exact Or.inr (Or.inr rfl)) (by decide) (by decide)) (pma_cons (pm_int) (pma_nil) rfl) rfl) (lenA_cons (lenA_cons lenA_nil)) (by decide) rfl rfl) (pma_cons (pm_tup (pma_cons (pm_bin op_mulM (pm_tup (pma_cons (pm_bin op_powM (pm_int) (pm_int)) (pma_nil) rfl)) (pm_int)) (pma_cons (pm_bin op_mulM (pm_tup (pma_cons (pm_tup (pma_cons (pm_int) (pma_cons (pm_int) (pma_cons (pm_int) (pma_nil) rfl) rfl) rfl)) (pma_nil) rfl)) (pm_int)) (pma_nil) rfl) rfl)) (pma_nil) rfl) rfl)) (pma_nil) rfl) rfl) (lenA_cons (lenA_cons lenA_nil)) (by decide) rfl rfl) (pmg_tup (Gd.calm G) (pmgs_cons (pmg_name nd (i := 2) rfl (by first | exact Or.inl rfl | exact Or.inr rfl) (by first | exact Or.inl rfl | exact Or.inr rfl)) (pmgs_cons (pmg_name nd (i := 3) rfl (by first | exact Or.inl rfl | exact Or.inr rfl) (by first | exact Or.inl rfl | exact Or.inr rfl)) (pmgs_nil) rfl) rfl) rfl rfl) (goes_tup (goes_cons goes_name (goes_cons goes_name (goes_nil)))) rfl rfl rfl)
    (pmss_cons (pms_asg (pm_callK0 (Gd.mkk G F_Ride___init__ dt_Ride___init__ rfl T.mk_Ride T.c_Ride.ca T.sh_Ride___init___1_riders_costs) (by rfl) T.c_Ride.mg T.c_Ride.kp (pmk_cons (pm_var (i := 3) rfl (by first | exact Or.inl rfl | exact Or.inr (Or.inl rfl) | exact Or.inr (Or.inr rfl)) (by decide) (by decide)) (pmk_cons (pm_var (i := 2) rfl (by first | exact Or.inl rfl | exact Or.inr (Or.inl rfl) | exact Or.inr (Or.inr rfl)) (by decide) (by decide)) (pmk_nil))) (lenA_cons (lenA_cons lenA_nil)) rfl rfl (by decide) rfl) (pmg_name nd (i := 4) rfl (by first | exact Or.inl rfl | exact Or.inr rfl) (by first | exact Or.inl rfl | exact Or.inr rfl)) goes_name rfl rfl rfl)
    (pmss_cons (pms_asg (pm_lst (pma_cons (pm_fld T.a_costs (pm_var (i := 4) rfl (by first | exact Or.inl rfl | exact Or.inr (Or.inl rfl) | exact Or.inr (Or.inr rfl)) (by decide) (by decide)) rfl) (pma_cons (pm_fld T.a_riders (pm_var (i := 4) rfl (by first | exact Or.inl rfl | exact Or.inr (Or.inl rfl) | exact Or.inr (Or.inr rfl)) (by decide) (by decide)) rfl) (pma_cons (pm_fld T.a_told (pm_var (i := 4) rfl (by first | exact Or.inl rfl | exact Or.inr (Or.inl rfl) | exact Or.inr (Or.inr rfl)) (by decide) (by decide)) rfl) (pma_cons (pm_callB (cl_lenI (Gd.sp G T.s_len rfl)) (by rfl) T.b_len bb_len (pma_cons (pm_var (i := 4) rfl (by first | exact Or.inl rfl | exact Or.inr (Or.inl rfl) | exact Or.inr (Or.inr rfl)) (by decide) (by decide)) (pma_nil) rfl) (by decide) (by decide) rfl rfl) (pma_cons (pm_callB (cl_reprI (Gd.sp G T.s_repr rfl) (Gd.gd G) (Gd.un G)) (by rfl) T.b_repr bb_repr (pma_cons (pm_var (i := 4) rfl (by first | exact Or.inl rfl | exact Or.inr (Or.inl rfl) | exact Or.inr (Or.inr rfl)) (by decide) (by decide)) (pma_nil) rfl) (by decide) (by decide) rfl rfl) (pma_cons (pm_callT (cl_boolI (Gd.sp G T.s_len rfl) T.nb_len.ok) (by rfl) T.b_bool bb_bool (pma_cons (pm_var (i := 4) rfl (by first | exact Or.inl rfl | exact Or.inr (Or.inl rfl) | exact Or.inr (Or.inr rfl)) (by decide) (by decide)) (pma_nil) rfl) (by decide) (by decide) rfl rfl) (pma_nil) rfl) rfl) rfl) rfl) rfl) rfl)) (pmg_name nd (i := 5) rfl (by first | exact Or.inl rfl | exact Or.inr rfl) (by first | exact Or.inl rfl | exact Or.inr rfl)) goes_name rfl rfl rfl)
    (pmss_cons (pms_asg (pm_bin op_addM (pm_bin op_addM (pm_bin op_addM (pm_bin op_addM (pm_str) (pm_callT cl_str (by rfl) T.b_str bb_str (pma_cons (pm_callB (cl_lenI (Gd.sp G T.s_len rfl)) (by rfl) T.b_len bb_len (pma_cons (pm_var (i := 2) rfl (by first | exact Or.inl rfl | exact Or.inr (Or.inl rfl) | exact Or.inr (Or.inr rfl)) (by decide) (by decide)) (pma_nil) rfl) (by decide) (by decide) rfl rfl) (pma_nil) rfl) (by decide) (by decide) rfl rfl)) (pm_str)) (pm_callT cl_str (by rfl) T.b_str bb_str (pma_cons (pm_callB (cl_lenI (Gd.sp G T.s_len rfl)) (by rfl) T.b_len bb_len (pma_cons (pm_var (i := 3) rfl (by first | exact Or.inl rfl | exact Or.inr (Or.inl rfl) | exact Or.inr (Or.inr rfl)) (by decide) (by decide)) (pma_nil) rfl) (by decide) (by decide) rfl rfl) (pma_nil) rfl) (by decide) (by decide) rfl rfl)) (pm_str)) (pmg_name nd (i := 6) rfl (by first | exact Or.inl rfl | exact Or.inr rfl) (by first | exact Or.inl rfl | exact Or.inr rfl)) goes_name rfl rfl rfl)
    (pmss_cons (pms_if (pmt_cmp (op_neI (Gd.sp G T.s_eq rfl) T.nf_eq.ok T.ne_eq.ok (Gd.un G)) (pm_callB (cl_reprI (Gd.sp G T.s_repr rfl) (Gd.gd G) (Gd.un G)) (by rfl) T.b_repr bb_repr (pma_cons (pm_var (i := 5) rfl (by first | exact Or.inl rfl | exact Or.inr (Or.inl rfl) | exact Or.inr (Or.inr rfl)) (by decide) (by decide)) (pma_nil) rfl) (by decide) (by decide) rfl rfl) (pm_callB (cl_reprI (Gd.sp G T.s_repr rfl) (Gd.gd G) (Gd.un G)) (by rfl) T.b_repr bb_repr (pma_cons (pm_lst (pma_cons (pm_var (i := 2) rfl (by first | exact Or.inl rfl | exact Or.inr (Or.inl rfl) | exact Or.inr (Or.inr rfl)) (by decide) (by decide)) (pma_cons (pm_var (i := 3) rfl (by first | exact Or.inl rfl | exact Or.inr (Or.inl rfl) | exact Or.inr (Or.inr rfl)) (by decide) (by decide)) (pma_cons (pm_tup (pma_cons (pm_var (i := 2) rfl (by first | exact Or.inl rfl | exact Or.inr (Or.inl rfl) | exact Or.inr (Or.inr rfl)) (by decide) (by decide)) (pma_cons (pm_var (i := 3) rfl (by first | exact Or.inl rfl | exact Or.inr (Or.inl rfl) | exact Or.inr (Or.inr rfl)) (by decide) (by decide)) (pma_nil) rfl) rfl)) (pma_cons (pm_callB (cl_lenI (Gd.sp G T.s_len rfl)) (by rfl) T.b_len bb_len (pma_cons (pm_var (i := 3) rfl (by first | exact Or.inl rfl | exact Or.inr (Or.inl rfl) | exact Or.inr (Or.inr rfl)) (by decide) (by decide)) (pma_nil) rfl) (by decide) (by decide) rfl rfl) (pma_cons (pm_var (i := 6) rfl (by first | exact Or.inl rfl | exact Or.inr (Or.inl rfl) | exact Or.inr (Or.inr rfl)) (by decide) (by decide)) (pma_cons (pm_bl) (pma_nil) rfl) rfl) rfl) rfl) rfl) rfl)) (pma_nil) rfl) (by decide) (by decide) rfl rfl) (nomark _)) (pmss_cons (pms_ret (pm_bl))
    (pmss_nil)) (pmss_nil))
    (pmss_cons (pms_if (L2.PW.pt (pmw_or (pmt_cmp (op_neI (Gd.sp G T.s_eq rfl) T.nf_eq.ok T.ne_eq.ok (Gd.un G)) (pm_var (i := 4) rfl (by first | exact Or.inl rfl | exact Or.inr (Or.inl rfl) | exact Or.inr (Or.inr rfl)) (by decide) (by decide)) (pm_callP (Gd.mkp G F_Ride___init__ dt_Ride___init__ rfl (by rfl) T.mk_Ride T.c_Ride.ca) (by rfl) T.c_Ride.mg T.c_Ride.kp (pma_cons (pm_var (i := 2) rfl (by first | exact Or.inl rfl | exact Or.inr (Or.inl rfl) | exact Or.inr (Or.inr rfl)) (by decide) (by decide)) (pma_cons (pm_var (i := 3) rfl (by first | exact Or.inl rfl | exact Or.inr (Or.inl rfl) | exact Or.inr (Or.inr rfl)) (by decide) (by decide)) (pma_nil) rfl) rfl) (lenA_cons (lenA_cons lenA_nil)) (by decide) rfl rfl) (nomark _)) (pmw_or (pmt_cmp (op_eqI (Gd.sp G T.s_eq rfl) T.nf_eq.ok (Gd.un G)) (pm_var (i := 4) rfl (by first | exact Or.inl rfl | exact Or.inr (Or.inl rfl) | exact Or.inr (Or.inr rfl)) (by decide) (by decide)) (pm_tup (pma_cons (pm_var (i := 2) rfl (by first | exact Or.inl rfl | exact Or.inr (Or.inl rfl) | exact Or.inr (Or.inr rfl)) (by decide) (by decide)) (pma_cons (pm_var (i := 3) rfl (by first | exact Or.inl rfl | exact Or.inr (Or.inl rfl) | exact Or.inr (Or.inr rfl)) (by decide) (by decide)) (pma_nil) rfl) rfl)) (nomark _)) (pmw_or1 (pmt_not (pmt_cmp (op_neI (Gd.sp G T.s_eq rfl) T.nf_eq.ok T.ne_eq.ok (Gd.un G)) (pm_var (i := 4) rfl (by first | exact Or.inl rfl | exact Or.inr (Or.inl rfl) | exact Or.inr (Or.inr rfl)) (by decide) (by decide)) (pm_var (i := 2) rfl (by first | exact Or.inl rfl | exact Or.inr (Or.inl rfl) | exact Or.inr (Or.inr rfl)) (by decide) (by decide)) (nomark _))))))) (pmss_cons (pms_ret (pm_bl))
    (pmss_nil)) (pmss_nil))
    (pmss_cons (pms_asg (pm_bin op_addM (pm_tup (pma_cons (pm_if (pmt_cmp op_ltM (pm_ix (pm_var (i := 2) rfl (by first | exact Or.inl rfl | exact Or.inr (Or.inl rfl) | exact Or.inr (Or.inr rfl)) (by decide) (by decide)) (pm_int) (plain_ix fun _ _ _ h => nomatch h)) (pm_bin op_powM (pm_int) (pm_int)) (nomark _)) (pm_bin op_addM (pm_ix (pm_var (i := 2) rfl (by first | exact Or.inl rfl | exact Or.inr (Or.inl rfl) | exact Or.inr (Or.inr rfl)) (by decide) (by decide)) (pm_int) (plain_ix fun _ _ _ h => nomatch h)) (pm_int)) (pm_int)) (pma_nil) rfl)) (pm_slice (pm_var (i := 2) rfl (by first | exact Or.inl rfl | exact Or.inr (Or.inl rfl) | exact Or.inr (Or.inr rfl)) (by decide) (by decide)) (pmo_some (pm_int)) (pmo_none))) (pmg_name nd (i := 7) rfl (by first | exact Or.inl rfl | exact Or.inr rfl) (by first | exact Or.inl rfl | exact Or.inr rfl)) goes_name rfl rfl rfl)
    (pmss_cons (pms_asg (pm_bin op_addM (pm_slice (pm_var (i := 3) rfl (by first | exact Or.inl rfl | exact Or.inr (Or.inl rfl) | exact Or.inr (Or.inr rfl)) (by decide) (by decide)) (pmo_none) (pmo_some (pm_un un_negM (pm_int)))) (pm_tup (pma_cons (pm_tup (pma_cons (pm_ix (pm_ix (pm_var (i := 3) rfl (by first | exact Or.inl rfl | exact Or.inr (Or.inl rfl) | exact Or.inr (Or.inr rfl)) (by decide) (by decide)) (pm_un un_negM (pm_int)) (plain_ix fun _ _ _ h => nomatch h)) (pm_int) (plain_ix fun _ _ _ h => nomatch h)) (pma_cons (pm_ix (pm_ix (pm_var (i := 3) rfl (by first | exact Or.inl rfl | exact Or.inr (Or.inl rfl) | exact Or.inr (Or.inr rfl)) (by decide) (by decide)) (pm_un un_negM (pm_int)) (plain_ix fun _ _ _ h => nomatch h)) (pm_int) (plain_ix fun _ _ _ h => nomatch h)) (pma_cons (pm_bin op_modM (pm_callT cl_int (by rfl) T.b_int bb_int (pma_cons (pm_bin op_addM (pm_ix (pm_ix (pm_var (i := 3) rfl (by first | exact Or.inl rfl | exact Or.inr (Or.inl rfl) | exact Or.inr (Or.inr rfl)) (by decide) (by decide)) (pm_un un_negM (pm_int)) (plain_ix fun _ _ _ h => nomatch h)) (pm_int) (plain_ix fun _ _ _ h => nomatch h)) (pm_int)) (pma_nil) rfl) (by decide) (by decide) rfl rfl) (pm_int)) (pma_nil) rfl) rfl) rfl)) (pma_nil) rfl))) (pmg_name nd (i := 8) rfl (by first | exact Or.inl rfl | exact Or.inr rfl) (by first | exact Or.inl rfl | exact Or.inr rfl)) goes_name rfl rfl rfl)
    (pmss_cons (pms_if (L2.PW.pt (pmw_or (pmt_cmp (op_eqI (Gd.sp G T.s_eq rfl) T.nf_eq.ok (Gd.un G)) (pm_var (i := 4) rfl (by first | exact Or.inl rfl | exact Or.inr (Or.inl rfl) | exact Or.inr (Or.inr rfl)) (by decide) (by decide)) (pm_callP (Gd.mkp G F_Ride___init__ dt_Ride___init__ rfl (by rfl) T.mk_Ride T.c_Ride.ca) (by rfl) T.c_Ride.mg T.c_Ride.kp (pma_cons (pm_var (i := 7) rfl (by first | exact Or.inl rfl | exact Or.inr (Or.inl rfl) | exact Or.inr (Or.inr rfl)) (by decide) (by decide)) (pma_cons (pm_var (i := 3) rfl (by first | exact Or.inl rfl | exact Or.inr (Or.inl rfl) | exact Or.inr (Or.inr rfl)) (by decide) (by decide)) (pma_nil) rfl) rfl) (lenA_cons (lenA_cons lenA_nil)) (by decide) rfl rfl) (nomark _)) (pmw_or (pmt_cmp (op_eqI (Gd.sp G T.s_eq rfl) T.nf_eq.ok (Gd.un G)) (pm_var (i := 4) rfl (by first | exact Or.inl rfl | exact Or.inr (Or.inl rfl) | exact Or.inr (Or.inr rfl)) (by decide) (by decide)) (pm_callP (Gd.mkp G F_Ride___init__ dt_Ride___init__ rfl (by rfl) T.mk_Ride T.c_Ride.ca) (by rfl) T.c_Ride.mg T.c_Ride.kp (pma_cons (pm_var (i := 2) rfl (by first | exact Or.inl rfl | exact Or.inr (Or.inl rfl) | exact Or.inr (Or.inr rfl)) (by decide) (by decide)) (pma_cons (pm_var (i := 8) rfl (by first | exact Or.inl rfl | exact Or.inr (Or.inl rfl) | exact Or.inr (Or.inr rfl)) (by decide) (by decide)) (pma_nil) rfl) rfl) (lenA_cons (lenA_cons lenA_nil)) (by decide) rfl rfl) (nomark _)) (pmw_or1 (pmt_cmp (op_neI (Gd.sp G T.s_eq rfl) T.nf_eq.ok T.ne_eq.ok (Gd.un G)) (pm_fld T.a_riders (pm_callP (Gd.mkp G F_Ride___init__ dt_Ride___init__ rfl (by rfl) T.mk_Ride T.c_Ride.ca) (by rfl) T.c_Ride.mg T.c_Ride.kp (pma_cons (pm_var (i := 7) rfl (by first | exact Or.inl rfl | exact Or.inr (Or.inl rfl) | exact Or.inr (Or.inr rfl)) (by decide) (by decide)) (pma_cons (pm_var (i := 3) rfl (by first | exact Or.inl rfl | exact Or.inr (Or.inl rfl) | exact Or.inr (Or.inr rfl)) (by decide) (by decide)) (pma_nil) rfl) rfl) (lenA_cons (lenA_cons lenA_nil)) (by decide) rfl rfl) rfl) (pm_var (i := 3) rfl (by first | exact Or.inl rfl | exact Or.inr (Or.inl rfl) | exact Or.inr (Or.inr rfl)) (by decide) (by decide)) (nomark _)))))) (pmss_cons (pms_ret (pm_bl))
    (pmss_nil)) (pmss_nil))
    (pmss_nil)))))))))) (fun _ => rfl))
    (pmss_cons (pms_ret (pm_bl))
    (pmss_nil))
theorem b_law (T : Txt A K mg p pc) (G : Gd A (cxi dt_law P w K mg base f cdv Ar outer s H E) (fun cls d _ H' => E cls d H') DT p S l) :
    PMSs A (cxi dt_law P w K mg base f cdv Ar outer s H E) (fun cls d _ H' => E cls d H') (defBody dt_law.st) (D_law S) := by
  have nd : dt_law.N.Nodup := by decide +kernel
  exact pmss_cons (pms_ret (pm_fuseB (cll_all (Gd.calm G)) (by rfl) T.b_all bb_all (pml_lc (Gd.calm G) nd (pmi_range1 (by rfl) T.b_range (pma_cons (pm_callB (cl_max (Gd.calm G)) (by rfl) T.b_max bb_max (pma_cons (pm_int) (pma_cons (pm_callB (cl_min (Gd.calm G)) (by rfl) T.b_min bb_min (pma_cons (pm_callB (cl_lenI (Gd.sp G T.s_len rfl)) (by rfl) T.b_len bb_len (pma_cons (pm_var (i := 0) rfl (by first | exact Or.inl rfl | exact Or.inr (Or.inl rfl) | exact Or.inr (Or.inr rfl)) (by decide) (by decide)) (pma_nil) rfl) (by decide) (by decide) rfl rfl) (pma_cons (pm_int) (pma_nil) rfl) rfl) (by decide) (by decide) rfl rfl) (pma_nil) rfl) rfl) (by decide) (by decide) rfl rfl) (pma_nil) rfl) rfl) (own := [("_law_k", 1)]) (blkOk_by (by kernel_rfl)) (fun _ _ _ _ _ => pct_one nd rfl (by first | exact Or.inl rfl | exact Or.inr rfl) (by first | exact Or.inl rfl | exact Or.inr rfl)) (fun _ _ _ _ _ => pmts_nil) (fun _ _ _ _ _ => pm_callP (Gd.cv (Gd.blk G _ _ _ _ _) F__law_right dt__law_right rfl) (by rfl) T.f__law_right.mg T.f__law_right.kp (pma_cons (pm_callP (Gd.cv (Gd.blk G _ _ _ _ _) F__law_jug dt__law_jug rfl) (by rfl) T.f__law_jug.mg T.f__law_jug.kp (pma_cons (pm_var (i := 0) rfl (by first | exact Or.inl rfl | exact Or.inr (Or.inl rfl) | exact Or.inr (Or.inr rfl)) (by decide) (by decide)) (pma_cons (pm_var (i := 1) rfl (by first | exact Or.inl rfl | exact Or.inr (Or.inl rfl) | exact Or.inr (Or.inr rfl)) (by decide) (by decide)) (pma_nil) rfl) rfl) (lenA_cons (lenA_cons lenA_nil)) (by decide) rfl rfl) (pma_nil) rfl) (lenA_cons lenA_nil) (by decide) rfl rfl) (fun _ => rfl) (by decide)) (by decide) (by decide) rfl))
    (pmss_nil)
end
theorem sc_is_integer : FnScope dt_is_integer.N dt_is_integer.ps (defScope dt_is_integer.st) := ⟨rfl, rfl, rfl, by decide +kernel, rfl, by decide +kernel, by decide +kernel⟩
theorem sc_is_between : FnScope dt_is_between.N dt_is_between.ps (defScope dt_is_between.st) := ⟨rfl, rfl, rfl, by decide +kernel, rfl, by decide +kernel, by decide +kernel⟩
theorem sc_check_costs : FnScope dt_check_costs.N dt_check_costs.ps (defScope dt_check_costs.st) := ⟨rfl, rfl, rfl, by decide +kernel, rfl, by decide +kernel, by decide +kernel⟩
theorem sc_is_rider : FnScope dt_is_rider.N dt_is_rider.ps (defScope dt_is_rider.st) := ⟨rfl, rfl, rfl, by decide +kernel, rfl, by decide +kernel, by decide +kernel⟩
theorem sc_check_riders : FnScope dt_check_riders.N dt_check_riders.ps (defScope dt_check_riders.st) := ⟨rfl, rfl, rfl, by decide +kernel, rfl, by decide +kernel, by decide +kernel⟩
theorem sc_aboard_at : FnScope dt_aboard_at.N dt_aboard_at.ps (defScope dt_aboard_at.st) := ⟨rfl, rfl, rfl, by decide +kernel, rfl, by decide +kernel, by decide +kernel⟩
theorem sc_is_crowded : FnScope dt_is_crowded.N dt_is_crowded.ps (defScope dt_is_crowded.st) := ⟨rfl, rfl, rfl, by decide +kernel, rfl, by decide +kernel, by decide +kernel⟩
theorem sc_Ride___init__ : FnScope dt_Ride___init__.N dt_Ride___init__.ps (defScope dt_Ride___init__.st) := ⟨rfl, rfl, rfl, by decide +kernel, rfl, by decide +kernel, by decide +kernel⟩
theorem sc_Ride_aboard : FnScope dt_Ride_aboard.N dt_Ride_aboard.ps (defScope dt_Ride_aboard.st) := ⟨rfl, rfl, rfl, by decide +kernel, rfl, by decide +kernel, by decide +kernel⟩
theorem sc_Ride_ranked : FnScope dt_Ride_ranked.N dt_Ride_ranked.ps (defScope dt_Ride_ranked.st) := ⟨rfl, rfl, rfl, by decide +kernel, rfl, by decide +kernel, by decide +kernel⟩
theorem sc_Ride___len__ : FnScope dt_Ride___len__.N dt_Ride___len__.ps (defScope dt_Ride___len__.st) := ⟨rfl, rfl, rfl, by decide +kernel, rfl, by decide +kernel, by decide +kernel⟩
theorem sc_Ride___eq__ : FnScope dt_Ride___eq__.N dt_Ride___eq__.ps (defScope dt_Ride___eq__.st) := ⟨rfl, rfl, rfl, by decide +kernel, rfl, by decide +kernel, by decide +kernel⟩
theorem sc_Ride___repr__ : FnScope dt_Ride___repr__.N dt_Ride___repr__.ps (defScope dt_Ride___repr__.st) := ⟨rfl, rfl, rfl, by decide +kernel, rfl, by decide +kernel, by decide +kernel⟩
theorem sc_check_stretch : FnScope dt_check_stretch.N dt_check_stretch.ps (defScope dt_check_stretch.st) := ⟨rfl, rfl, rfl, by decide +kernel, rfl, by decide +kernel, by decide +kernel⟩
theorem sc__law_jug : FnScope dt__law_jug.N dt__law_jug.ps (defScope dt__law_jug.st) := ⟨rfl, rfl, rfl, by decide +kernel, rfl, by decide +kernel, by decide +kernel⟩
theorem sc__law_drop : FnScope dt__law_drop.N dt__law_drop.ps (defScope dt__law_drop.st) := ⟨rfl, rfl, rfl, by decide +kernel, rfl, by decide +kernel, by decide +kernel⟩
theorem sc__law_one : FnScope dt__law_one.N dt__law_one.ps (defScope dt__law_one.st) := ⟨rfl, rfl, rfl, by decide +kernel, rfl, by decide +kernel, by decide +kernel⟩
theorem sc__law_crowd : FnScope dt__law_crowd.N dt__law_crowd.ps (defScope dt__law_crowd.st) := ⟨rfl, rfl, rfl, by decide +kernel, rfl, by decide +kernel, by decide +kernel⟩
theorem sc__law_trip : FnScope dt__law_trip.N dt__law_trip.ps (defScope dt__law_trip.st) := ⟨rfl, rfl, rfl, by decide +kernel, rfl, by decide +kernel, by decide +kernel⟩
theorem sc__law_right : FnScope dt__law_right.N dt__law_right.ps (defScope dt__law_right.st) := ⟨rfl, rfl, rfl, by decide +kernel, rfl, by decide +kernel, by decide +kernel⟩
theorem sc_law : FnScope dt_law.N dt_law.ps (defScope dt_law.st) := ⟨rfl, rfl, rfl, by decide +kernel, rfl, by decide +kernel, by decide +kernel⟩
def fdOf (d : DefT) (kV doc pm : Value) (an : Option Addr) (cd ct : Value) : FuncData := PySem.W.fnOf d.name d.qual (defArgs d.st) (defBody d.st) (defScope d.st) .none kV doc pm an cd ct
theorem all_mk {l : PySem.W.OpenLaw} {w : World} {K : PySem.W.Frag} {h : Heap} {mg : Str → Option Value} {fl f0 f1 f2 f3 f4 f5 f6 f7 f8 f9 f10 f11 f12 f13 f14 f15 f16 f17 f18 f19 f20 C6 : Addr} {od0 an0 od1 an1 od2 an2 od3 an3 od4 an4 od5 an5 od6 an6 od7 an7 od8 an8 od9 an9 od10 an10 od11 an11 od12 an12 od13 an13 od14 an14 od15 an15 od16 an16 od17 an17 od18 an18 od19 an19 od20 an20 : Option Addr} {sl0 sl1 sl2 sl3 sl4 sl5 sl6 sl7 sl8 sl9 sl10 sl11 sl12 sl13 sl14 sl15 sl16 sl17 sl18 sl19 sl20 : Array (Option Value)} {oc0 kV0 dc0 pm0 cd0 ct0 oc1 kV1 dc1 pm1 cd1 ct1 oc2 kV2 dc2 pm2 cd2 ct2 oc3 kV3 dc3 pm3 cd3 ct3 oc4 kV4 dc4 pm4 cd4 ct4 oc5 kV5 dc5 pm5 cd5 ct5 oc6 kV6 dc6 pm6 cd6 ct6 oc7 kV7 dc7 pm7 cd7 ct7 oc8 kV8 dc8 pm8 cd8 ct8 oc9 kV9 dc9 pm9 cd9 ct9 oc10 kV10 dc10 pm10 cd10 ct10 oc11 kV11 dc11 pm11 cd11 ct11 oc12 kV12 dc12 pm12 cd12 ct12 oc13 kV13 dc13 pm13 cd13 ct13 oc14 kV14 dc14 pm14 cd14 ct14 oc15 kV15 dc15 pm15 cd15 ct15 oc16 kV16 dc16 pm16 cd16 ct16 oc17 kV17 dc17 pm17 cd17 ct17 oc18 kV18 dc18 pm18 cd18 ct18 oc19 kV19 dc19 pm19 cd19 ct19 oc20 kV20 dc20 pm20 cd20 ct20 : Value} {cdt6 : ClassData} {tk_MOST_ABOARD tk_MOST_BAGS tk_MOST_COST tk_MOST_RIDERS tk_MOST_STRETCHES : Tok} (X : K.In h) (G : h.Ns mainGlobals mg) (hfa : mg "law" = some (.ref fl))
    (aC6 : PySem.W.nsIn K mainGlobals "Ride" = some (some (.ref C6)))
    (a0 : PySem.W.nsIn K mainGlobals "is_integer" = some (some (.ref f0)))
    (l0 : K.lookup f0 = some ⟨oc0, od0, .func (PySem.W.fnOf "is_integer" "is_integer" (defArgs dt_is_integer.st) (defBody dt_is_integer.st) (defScope dt_is_integer.st) .none kV0 dc0 pm0 an0 cd0 ct0), sl0⟩)
    (c0 : PySem.W.codeIn K cd0 "is_integer" = true)
    (k0 : PySem.W.keepIn K (.ref f0) = true)
    (a1 : PySem.W.nsIn K mainGlobals "is_between" = some (some (.ref f1)))
    (l1 : K.lookup f1 = some ⟨oc1, od1, .func (PySem.W.fnOf "is_between" "is_between" (defArgs dt_is_between.st) (defBody dt_is_between.st) (defScope dt_is_between.st) .none kV1 dc1 pm1 an1 cd1 ct1), sl1⟩)
    (c1 : PySem.W.codeIn K cd1 "is_between" = true)
    (k1 : PySem.W.keepIn K (.ref f1) = true)
    (a2 : PySem.W.nsIn K mainGlobals "check_costs" = some (some (.ref f2)))
    (l2 : K.lookup f2 = some ⟨oc2, od2, .func (PySem.W.fnOf "check_costs" "check_costs" (defArgs dt_check_costs.st) (defBody dt_check_costs.st) (defScope dt_check_costs.st) .none kV2 dc2 pm2 an2 cd2 ct2), sl2⟩)
    (c2 : PySem.W.codeIn K cd2 "check_costs" = true)
    (k2 : PySem.W.keepIn K (.ref f2) = true)
    (a3 : PySem.W.nsIn K mainGlobals "is_rider" = some (some (.ref f3)))
    (l3 : K.lookup f3 = some ⟨oc3, od3, .func (PySem.W.fnOf "is_rider" "is_rider" (defArgs dt_is_rider.st) (defBody dt_is_rider.st) (defScope dt_is_rider.st) .none kV3 dc3 pm3 an3 cd3 ct3), sl3⟩)
    (c3 : PySem.W.codeIn K cd3 "is_rider" = true)
    (k3 : PySem.W.keepIn K (.ref f3) = true)
    (a4 : PySem.W.nsIn K mainGlobals "check_riders" = some (some (.ref f4)))
    (l4 : K.lookup f4 = some ⟨oc4, od4, .func (PySem.W.fnOf "check_riders" "check_riders" (defArgs dt_check_riders.st) (defBody dt_check_riders.st) (defScope dt_check_riders.st) .none kV4 dc4 pm4 an4 cd4 ct4), sl4⟩)
    (c4 : PySem.W.codeIn K cd4 "check_riders" = true)
    (k4 : PySem.W.keepIn K (.ref f4) = true)
    (a5 : PySem.W.nsIn K mainGlobals "aboard_at" = some (some (.ref f5)))
    (l5 : K.lookup f5 = some ⟨oc5, od5, .func (PySem.W.fnOf "aboard_at" "aboard_at" (defArgs dt_aboard_at.st) (defBody dt_aboard_at.st) (defScope dt_aboard_at.st) .none kV5 dc5 pm5 an5 cd5 ct5), sl5⟩)
    (c5 : PySem.W.codeIn K cd5 "aboard_at" = true)
    (k5 : PySem.W.keepIn K (.ref f5) = true)
    (a6 : PySem.W.nsIn K mainGlobals "is_crowded" = some (some (.ref f6)))
    (l6 : K.lookup f6 = some ⟨oc6, od6, .func (PySem.W.fnOf "is_crowded" "is_crowded" (defArgs dt_is_crowded.st) (defBody dt_is_crowded.st) (defScope dt_is_crowded.st) .none kV6 dc6 pm6 an6 cd6 ct6), sl6⟩)
    (c6 : PySem.W.codeIn K cd6 "is_crowded" = true)
    (k6 : PySem.W.keepIn K (.ref f6) = true)
    (a7 : PySem.W.findIn K (.ref C6) "__init__" = some (some (.ref f7)))
    (i7 : PySem.W.isFn K (.ref f7) = true)
    (l7 : K.lookup f7 = some ⟨oc7, od7, .func (PySem.W.fnOf "__init__" "Ride.__init__" (defArgs dt_Ride___init__.st) (defBody dt_Ride___init__.st) (defScope dt_Ride___init__.st) .none kV7 dc7 pm7 an7 cd7 ct7), sl7⟩)
    (c7 : PySem.W.codeIn K cd7 "Ride.__init__" = true)
    (k7 : PySem.W.keepIn K (.ref f7) = true)
    (a8 : PySem.W.findIn K (.ref C6) "aboard" = some (some (.ref f8)))
    (i8 : PySem.W.isFn K (.ref f8) = true)
    (l8 : K.lookup f8 = some ⟨oc8, od8, .func (PySem.W.fnOf "aboard" "Ride.aboard" (defArgs dt_Ride_aboard.st) (defBody dt_Ride_aboard.st) (defScope dt_Ride_aboard.st) .none kV8 dc8 pm8 an8 cd8 ct8), sl8⟩)
    (c8 : PySem.W.codeIn K cd8 "Ride.aboard" = true)
    (k8 : PySem.W.keepIn K (.ref f8) = true)
    (a9 : PySem.W.findIn K (.ref C6) "ranked" = some (some (.ref f9)))
    (i9 : PySem.W.isFn K (.ref f9) = true)
    (l9 : K.lookup f9 = some ⟨oc9, od9, .func (PySem.W.fnOf "ranked" "Ride.ranked" (defArgs dt_Ride_ranked.st) (defBody dt_Ride_ranked.st) (defScope dt_Ride_ranked.st) .none kV9 dc9 pm9 an9 cd9 ct9), sl9⟩)
    (c9 : PySem.W.codeIn K cd9 "Ride.ranked" = true)
    (k9 : PySem.W.keepIn K (.ref f9) = true)
    (a10 : PySem.W.findIn K (.ref C6) "__len__" = some (some (.ref f10)))
    (i10 : PySem.W.isFn K (.ref f10) = true)
    (l10 : K.lookup f10 = some ⟨oc10, od10, .func (PySem.W.fnOf "__len__" "Ride.__len__" (defArgs dt_Ride___len__.st) (defBody dt_Ride___len__.st) (defScope dt_Ride___len__.st) .none kV10 dc10 pm10 an10 cd10 ct10), sl10⟩)
    (c10 : PySem.W.codeIn K cd10 "Ride.__len__" = true)
    (k10 : PySem.W.keepIn K (.ref f10) = true)
    (a11 : PySem.W.findIn K (.ref C6) "__eq__" = some (some (.ref f11)))
    (i11 : PySem.W.isFn K (.ref f11) = true)
    (l11 : K.lookup f11 = some ⟨oc11, od11, .func (PySem.W.fnOf "__eq__" "Ride.__eq__" (defArgs dt_Ride___eq__.st) (defBody dt_Ride___eq__.st) (defScope dt_Ride___eq__.st) .none kV11 dc11 pm11 an11 cd11 ct11), sl11⟩)
    (c11 : PySem.W.codeIn K cd11 "Ride.__eq__" = true)
    (k11 : PySem.W.keepIn K (.ref f11) = true)
    (a12 : PySem.W.findIn K (.ref C6) "__repr__" = some (some (.ref f12)))
    (i12 : PySem.W.isFn K (.ref f12) = true)
    (l12 : K.lookup f12 = some ⟨oc12, od12, .func (PySem.W.fnOf "__repr__" "Ride.__repr__" (defArgs dt_Ride___repr__.st) (defBody dt_Ride___repr__.st) (defScope dt_Ride___repr__.st) .none kV12 dc12 pm12 an12 cd12 ct12), sl12⟩)
    (c12 : PySem.W.codeIn K cd12 "Ride.__repr__" = true)
    (k12 : PySem.W.keepIn K (.ref f12) = true)
    (a13 : PySem.W.nsIn K mainGlobals "check_stretch" = some (some (.ref f13)))
    (l13 : K.lookup f13 = some ⟨oc13, od13, .func (PySem.W.fnOf "check_stretch" "check_stretch" (defArgs dt_check_stretch.st) (defBody dt_check_stretch.st) (defScope dt_check_stretch.st) .none kV13 dc13 pm13 an13 cd13 ct13), sl13⟩)
    (c13 : PySem.W.codeIn K cd13 "check_stretch" = true)
    (k13 : PySem.W.keepIn K (.ref f13) = true)
    (a14 : PySem.W.nsIn K mainGlobals "_law_jug" = some (some (.ref f14)))
    (l14 : K.lookup f14 = some ⟨oc14, od14, .func (PySem.W.fnOf "_law_jug" "_law_jug" (defArgs dt__law_jug.st) (defBody dt__law_jug.st) (defScope dt__law_jug.st) .none kV14 dc14 pm14 an14 cd14 ct14), sl14⟩)
    (c14 : PySem.W.codeIn K cd14 "_law_jug" = true)
    (k14 : PySem.W.keepIn K (.ref f14) = true)
    (a15 : PySem.W.nsIn K mainGlobals "_law_drop" = some (some (.ref f15)))
    (l15 : K.lookup f15 = some ⟨oc15, od15, .func (PySem.W.fnOf "_law_drop" "_law_drop" (defArgs dt__law_drop.st) (defBody dt__law_drop.st) (defScope dt__law_drop.st) .none kV15 dc15 pm15 an15 cd15 ct15), sl15⟩)
    (c15 : PySem.W.codeIn K cd15 "_law_drop" = true)
    (k15 : PySem.W.keepIn K (.ref f15) = true)
    (a16 : PySem.W.nsIn K mainGlobals "_law_one" = some (some (.ref f16)))
    (l16 : K.lookup f16 = some ⟨oc16, od16, .func (PySem.W.fnOf "_law_one" "_law_one" (defArgs dt__law_one.st) (defBody dt__law_one.st) (defScope dt__law_one.st) .none kV16 dc16 pm16 an16 cd16 ct16), sl16⟩)
    (c16 : PySem.W.codeIn K cd16 "_law_one" = true)
    (k16 : PySem.W.keepIn K (.ref f16) = true)
    (a17 : PySem.W.nsIn K mainGlobals "_law_crowd" = some (some (.ref f17)))
    (l17 : K.lookup f17 = some ⟨oc17, od17, .func (PySem.W.fnOf "_law_crowd" "_law_crowd" (defArgs dt__law_crowd.st) (defBody dt__law_crowd.st) (defScope dt__law_crowd.st) .none kV17 dc17 pm17 an17 cd17 ct17), sl17⟩)
    (c17 : PySem.W.codeIn K cd17 "_law_crowd" = true)
    (k17 : PySem.W.keepIn K (.ref f17) = true)
    (a18 : PySem.W.nsIn K mainGlobals "_law_trip" = some (some (.ref f18)))
    (l18 : K.lookup f18 = some ⟨oc18, od18, .func (PySem.W.fnOf "_law_trip" "_law_trip" (defArgs dt__law_trip.st) (defBody dt__law_trip.st) (defScope dt__law_trip.st) .none kV18 dc18 pm18 an18 cd18 ct18), sl18⟩)
    (c18 : PySem.W.codeIn K cd18 "_law_trip" = true)
    (k18 : PySem.W.keepIn K (.ref f18) = true)
    (a19 : PySem.W.nsIn K mainGlobals "_law_right" = some (some (.ref f19)))
    (l19 : K.lookup f19 = some ⟨oc19, od19, .func (PySem.W.fnOf "_law_right" "_law_right" (defArgs dt__law_right.st) (defBody dt__law_right.st) (defScope dt__law_right.st) .none kV19 dc19 pm19 an19 cd19 ct19), sl19⟩)
    (c19 : PySem.W.codeIn K cd19 "_law_right" = true)
    (k19 : PySem.W.keepIn K (.ref f19) = true)
    (a20 : PySem.W.nsIn K mainGlobals "law" = some (some (.ref f20)))
    (l20 : K.lookup f20 = some ⟨oc20, od20, .func (PySem.W.fnOf "law" "law" (defArgs dt_law.st) (defBody dt_law.st) (defScope dt_law.st) .none kV20 dc20 pm20 an20 cd20 ct20), sl20⟩)
    (c20 : PySem.W.codeIn K cd20 "law" = true)
    (k20 : PySem.W.keepIn K (.ref f20) = true)
    (pg6 : PySem.W.plainGet K C6 Str.empty = true)
    (hd6 : PySem.W.hasDictIn K C6 = true)
    (po6 : PySem.W.plainOver K C6 = true)
    (sa6 : PySem.W.findIn K (.ref C6) "__setattr__" = some (some (.builtin "object.__setattr__")))
    (mk6 : PySem.W.makesIn K C6 = true)
    (kc6 : PySem.W.keepIn K (.ref C6) = true)
    (ha6 : PySem.W.findIn K (.ref C6) "__class__" = some (some (.builtin "object.__class__")))
    (hm6 : PySem.W.mroIn K C6 (.type "object") = some true)
    (cd_6 : PySem.W.clsIn K C6 = some cdt6)
    (ty6 : PySem.W.typeIn K (.ref C6) = some (.type "type"))
    (sb6_NoneType : PySem.W.subIn K (.type "NoneType") (.ref C6) = some false)
    (sb6_bool : PySem.W.subIn K (.type "bool") (.ref C6) = some false)
    (sb6_int : PySem.W.subIn K (.type "int") (.ref C6) = some false)
    (sb6_str : PySem.W.subIn K (.type "str") (.ref C6) = some false)
    (sb6_tuple : PySem.W.subIn K (.type "tuple") (.ref C6) = some false)
    (sb6_list : PySem.W.subIn K (.type "list") (.ref C6) = some false)
    (so6_tuple : PySem.W.subIn K (.ref C6) (.type "tuple") = some false)
    (so6_int : PySem.W.subIn K (.ref C6) (.type "int") = some false)
    (so6_bool : PySem.W.subIn K (.ref C6) (.type "bool") = some false)
    (so6_str : PySem.W.subIn K (.ref C6) (.type "str") = some false)
    (so6_object : PySem.W.subIn K (.ref C6) (.type "object") = some true)
    (ne6 : PySem.W.findIn K (.ref C6) "__ne__" = some (some (.builtin "object.__ne__")))
    (nb6 : PySem.W.findIn K (.ref C6) "__bool__" = some none)
    (na6_costs : PySem.W.findIn K (.ref C6) "costs" = some none)
    (na6_riders : PySem.W.findIn K (.ref C6) "riders" = some none)
    (na6_told : PySem.W.findIn K (.ref C6) "told" = some none)
    (hn_ : PySem.W.specialIn K (.builtin "object.__class__") "__get__" = some (some (.builtin "getset_descriptor.__get__")))
    (htk_ : PySem.W.takesIn K (.builtin "object.__class__") = some true)
    (v_MOST_ABOARD : PySem.W.nsIn K mainGlobals "MOST_ABOARD" = some (some (.int (4) tk_MOST_ABOARD)))
    (v_MOST_BAGS : PySem.W.nsIn K mainGlobals "MOST_BAGS" = some (some (.int (9) tk_MOST_BAGS)))
    (v_MOST_COST : PySem.W.nsIn K mainGlobals "MOST_COST" = some (some (.int (1000000) tk_MOST_COST)))
    (v_MOST_RIDERS : PySem.W.nsIn K mainGlobals "MOST_RIDERS" = some (some (.int (6) tk_MOST_RIDERS)))
    (v_MOST_STRETCHES : PySem.W.nsIn K mainGlobals "MOST_STRETCHES" = some (some (.int (12) tk_MOST_STRETCHES)))
    (z_abs : PySem.W.nsIn K mainGlobals "abs" = some none)
    (z_all : PySem.W.nsIn K mainGlobals "all" = some none)
    (z_any : PySem.W.nsIn K mainGlobals "any" = some none)
    (z_bool : PySem.W.nsIn K mainGlobals "bool" = some none)
    (z_divmod : PySem.W.nsIn K mainGlobals "divmod" = some none)
    (z_enumerate : PySem.W.nsIn K mainGlobals "enumerate" = some none)
    (z_int : PySem.W.nsIn K mainGlobals "int" = some none)
    (z_isinstance : PySem.W.nsIn K mainGlobals "isinstance" = some none)
    (z_len : PySem.W.nsIn K mainGlobals "len" = some none)
    (z_max : PySem.W.nsIn K mainGlobals "max" = some none)
    (z_min : PySem.W.nsIn K mainGlobals "min" = some none)
    (z_range : PySem.W.nsIn K mainGlobals "range" = some none)
    (z_repr : PySem.W.nsIn K mainGlobals "repr" = some none)
    (z_str : PySem.W.nsIn K mainGlobals "str" = some none)
    (z_tuple : PySem.W.nsIn K mainGlobals "tuple" = some none) :
    ∃ (A : AD) (fd : FuncData), (∀ (s : Shared) (u : Value), BindsTo s fd ⟨[u], []⟩ [("_law_script", u)]) ∧ ∀ base : Heap, K.In base → base.Ns mainGlobals mg → FnG l.prog w K mg base (4 * 12) fl fd ["_law_script"] (spM ⟨l.prog, w, K, mg, base, A.fa, A.ca⟩ (sem 12 F_law) 1) := by
  have ef : fl = f20 := by
    have e := hfa.symm.trans (PySem.W.mg_of X G a20)
    cases e
    rfl
  subst ef
  let p : Pl := ⟨fun j => [f0, f1, f2, f3, f4, f5, f6, f7, f8, f9, f10, f11, f12, f13, f14, f15, f16, f17, f18, f19, fl].getD j 0, fun j => [fdOf dt_is_integer kV0 dc0 pm0 an0 cd0 ct0, fdOf dt_is_between kV1 dc1 pm1 an1 cd1 ct1, fdOf dt_check_costs kV2 dc2 pm2 an2 cd2 ct2, fdOf dt_is_rider kV3 dc3 pm3 an3 cd3 ct3, fdOf dt_check_riders kV4 dc4 pm4 an4 cd4 ct4, fdOf dt_aboard_at kV5 dc5 pm5 an5 cd5 ct5, fdOf dt_is_crowded kV6 dc6 pm6 an6 cd6 ct6, fdOf dt_Ride___init__ kV7 dc7 pm7 an7 cd7 ct7, fdOf dt_Ride_aboard kV8 dc8 pm8 an8 cd8 ct8, fdOf dt_Ride_ranked kV9 dc9 pm9 an9 cd9 ct9, fdOf dt_Ride___len__ kV10 dc10 pm10 an10 cd10 ct10, fdOf dt_Ride___eq__ kV11 dc11 pm11 an11 cd11 ct11, fdOf dt_Ride___repr__ kV12 dc12 pm12 an12 cd12 ct12, fdOf dt_check_stretch kV13 dc13 pm13 an13 cd13 ct13, fdOf dt__law_jug kV14 dc14 pm14 an14 cd14 ct14, fdOf dt__law_drop kV15 dc15 pm15 an15 cd15 ct15, fdOf dt__law_one kV16 dc16 pm16 an16 cd16 ct16, fdOf dt__law_crowd kV17 dc17 pm17 an17 cd17 ct17, fdOf dt__law_trip kV18 dc18 pm18 an18 cd18 ct18, fdOf dt__law_right kV19 dc19 pm19 an19 cd19 ct19, fdOf dt_law kV20 dc20 pm20 an20 cd20 ct20].getD j (fdOf dt_law .none .none .none none .none .none)⟩
  let pc : Nat → Addr := fun j => [0, 0, 0, 0, 0, 0, C6].getD j 0
  let A : AD := ⟨fun i => some (p.fa i), fun i => some (pc i)⟩
  have cI6 : ClsI K C6 := ⟨⟨pg6, hd6, po6, sa6⟩, ha6, hn_, htk_, hm6⟩
  have T : Txt A K mg p pc := {
    f_is_integer := ⟨PySem.W.mg_of X G a0, k0, rfl⟩
    f_is_between := ⟨PySem.W.mg_of X G a1, k1, rfl⟩
    f_check_costs := ⟨PySem.W.mg_of X G a2, k2, rfl⟩
    f_is_rider := ⟨PySem.W.mg_of X G a3, k3, rfl⟩
    f_check_riders := ⟨PySem.W.mg_of X G a4, k4, rfl⟩
    f_aboard_at := ⟨PySem.W.mg_of X G a5, k5, rfl⟩
    f_is_crowded := ⟨PySem.W.mg_of X G a6, k6, rfl⟩
    f_check_stretch := ⟨PySem.W.mg_of X G a13, k13, rfl⟩
    f__law_jug := ⟨PySem.W.mg_of X G a14, k14, rfl⟩
    f__law_drop := ⟨PySem.W.mg_of X G a15, k15, rfl⟩
    f__law_one := ⟨PySem.W.mg_of X G a16, k16, rfl⟩
    f__law_crowd := ⟨PySem.W.mg_of X G a17, k17, rfl⟩
    f__law_trip := ⟨PySem.W.mg_of X G a18, k18, rfl⟩
    f__law_right := ⟨PySem.W.mg_of X G a19, k19, rfl⟩
    c_Ride := ⟨PySem.W.mg_of X G aC6, kc6, rfl⟩
    mk_Ride := ⟨mk6, a7, i7, kc6⟩
    k_MOST_ABOARD := ⟨_, PySem.W.mg_of X G v_MOST_ABOARD, _, rfl⟩
    k_MOST_BAGS := ⟨_, PySem.W.mg_of X G v_MOST_BAGS, _, rfl⟩
    k_MOST_COST := ⟨_, PySem.W.mg_of X G v_MOST_COST, _, rfl⟩
    k_MOST_RIDERS := ⟨_, PySem.W.mg_of X G v_MOST_RIDERS, _, rfl⟩
    k_MOST_STRETCHES := ⟨_, PySem.W.mg_of X G v_MOST_STRETCHES, _, rfl⟩
    b_abs := PySem.W.mg_none_of X G z_abs
    b_all := PySem.W.mg_none_of X G z_all
    b_any := PySem.W.mg_none_of X G z_any
    b_bool := PySem.W.mg_none_of X G z_bool
    b_divmod := PySem.W.mg_none_of X G z_divmod
    b_enumerate := PySem.W.mg_none_of X G z_enumerate
    b_int := PySem.W.mg_none_of X G z_int
    b_isinstance := PySem.W.mg_none_of X G z_isinstance
    b_len := PySem.W.mg_none_of X G z_len
    b_max := PySem.W.mg_none_of X G z_max
    b_min := PySem.W.mg_none_of X G z_min
    b_range := PySem.W.mg_none_of X G z_range
    b_repr := PySem.W.mg_none_of X G z_repr
    b_str := PySem.W.mg_none_of X G z_str
    b_tuple := PySem.W.mg_none_of X G z_tuple
    a_costs := (by
    intro e he
    simp only [List.mem_cons, List.not_mem_nil, or_false] at he
    subst he
    intro C hC; cases hC; exact ⟨cI6.cl, na6_costs⟩)
    a_riders := (by
    intro e he
    simp only [List.mem_cons, List.not_mem_nil, or_false] at he
    subst he
    intro C hC; cases hC; exact ⟨cI6.cl, na6_riders⟩)
    a_told := (by
    intro e he
    simp only [List.mem_cons, List.not_mem_nil, or_false] at he
    subst he
    intro C hC; cases hC; exact ⟨cI6.cl, na6_told⟩)
    s_len := (by
    intro e he
    simp only [List.mem_cons, List.not_mem_nil, or_false] at he
    subst he
    intro C hC; cases hC; exact ⟨a10, i10⟩)
    s_repr := (by
    intro e he
    simp only [List.mem_cons, List.not_mem_nil, or_false] at he
    subst he
    intro C hC; cases hC; exact ⟨a12, i12⟩)
    s_eq := (by
    intro e he
    simp only [List.mem_cons, List.not_mem_nil, or_false] at he
    subst he
    intro C hC; cases hC; exact ⟨a11, i11⟩)
    nf_eq := ⟨(by
    intro e he
    simp only [List.mem_cons, List.not_mem_nil, or_false] at he
    subst he
    intro C hC; cases hC; exact cI6), (by
    intro e he
    simp only [List.mem_cons, List.not_mem_nil, or_false] at he
    subst he
    intro C hC; cases hC
    refine ⟨?_, ?_⟩
    · intro n hn
      simp only [bNames, List.mem_cons, List.not_mem_nil, or_false] at hn
      rcases hn with rfl | rfl | rfl | rfl | rfl | rfl
      · exact nf_ty sb6_NoneType
      · exact nf_ty sb6_bool
      · exact nf_ty sb6_int
      · exact nf_ty sb6_str
      · exact nf_ty sb6_tuple
      · exact nf_ty sb6_list
    · exact (by
        intro e he
        simp only [List.mem_cons, List.not_mem_nil, or_false] at he
        subst he
        intro D hD; cases hD; exact nf_self))⟩
    ne_eq := (by
    intro e he
    simp only [List.mem_cons, List.not_mem_nil, or_false] at he
    subst he
    intro C hC; cases hC; exact ⟨ne6, so6_object⟩)
    nb_len := (by
    intro e he
    simp only [List.mem_cons, List.not_mem_nil, or_false] at he
    subst he
    intro C hC; cases hC; exact nb6)
    kt := ⟨(by
    intro e he
    simp only [List.mem_cons, List.not_mem_nil, or_false] at he
    rcases he with rfl | rfl | rfl | rfl | rfl | rfl | rfl
    · intro C hC t ht; cases hC; cases ht; exact kit_own cd_6 ty6 sb6_NoneType (fun z => by cases eq_of_beq z)
    · intro C hC t ht; cases hC; cases ht; exact kit_own cd_6 ty6 sb6_bool (fun z => by cases eq_of_beq z)
    · intro C hC t ht; cases hC; cases ht; exact kit_own cd_6 ty6 sb6_int (fun z => by cases eq_of_beq z)
    · intro C hC t ht; cases hC; cases ht; exact kit_own cd_6 ty6 sb6_str (fun z => by cases eq_of_beq z)
    · intro C hC t ht; cases hC; cases ht; exact kit_own cd_6 ty6 sb6_tuple (fun z => by cases eq_of_beq z)
    · intro C hC t ht; cases hC; cases ht; exact kit_own cd_6 ty6 sb6_list (fun z => by cases eq_of_beq z)
    · intro C hC t ht; cases hC; obtain ⟨D, hD, rfl⟩ := ht; cases hD; exact kit_self
    ), (by
    intro e he
    simp only [List.mem_cons, List.not_mem_nil, or_false] at he
    rcases he with rfl | rfl | rfl | rfl
    · intro C hC; cases hC; exact kit_blt (by decide +kernel) so6_tuple
    · intro C hC; cases hC; exact kit_blt (by decide +kernel) so6_int
    · intro C hC; cases hC; exact kit_blt (by decide +kernel) so6_bool
    · intro C hC; cases hC; exact kit_blt (by decide +kernel) so6_str
    )⟩
    ki := (by
    intro k C hC hk
    have hk2 : k = C_Ride := by
      rcases hk with ⟨e, he, e1⟩ | ⟨e, he, e1⟩
      · simp only [List.mem_cons, List.not_mem_nil, or_false] at he
        rcases he with rfl | rfl | rfl | rfl | rfl | rfl | rfl <;> cases e1 <;> simp
      · simp only [List.mem_cons, List.not_mem_nil, or_false] at he
        rcases he with rfl | rfl | rfl | rfl <;> cases e1 <;> simp
    rcases hk2 with rfl
    · cases hC; exact cI6
    )
    sh_Ride___init___1_riders_costs := ⟨rfl, fun s us ws _ h1 h2 => .of_eq (match us, ws, h1, h2 with | [_], [_, _], _, _ => rfl)⟩ }
  refine ⟨A, p.fd F_law, fun s u => .of_eq rfl, fun base hb hm => ?_⟩
  have hD : ∀ j d, DT[j]? = some d → DefOk K d (p.fa j) (p.fd j) := by
    intro j d h
    match j, h with
    | 0, h =>
      cases h
      have F : FunD K dt_is_integer.name dt_is_integer.qual (defArgs dt_is_integer.st) (defBody dt_is_integer.st) (defScope dt_is_integer.st) [] [] f0 (fdOf dt_is_integer kV0 dc0 pm0 an0 cd0 ct0) := ⟨⟨_, _, _, _, _, _, _, _, _, _, rfl, l0, c0, .inl ⟨rfl, rfl⟩, .inl rfl⟩, k0⟩
      exact ⟨F, sc_is_integer, F.bindsN fun _ _ _ _ _ _ us hl => match us, hl with | [_], _ => rfl⟩
    | 1, h =>
      cases h
      have F : FunD K dt_is_between.name dt_is_between.qual (defArgs dt_is_between.st) (defBody dt_is_between.st) (defScope dt_is_between.st) [] [] f1 (fdOf dt_is_between kV1 dc1 pm1 an1 cd1 ct1) := ⟨⟨_, _, _, _, _, _, _, _, _, _, rfl, l1, c1, .inl ⟨rfl, rfl⟩, .inl rfl⟩, k1⟩
      exact ⟨F, sc_is_between, F.bindsN fun _ _ _ _ _ _ us hl => match us, hl with | [_, _, _], _ => rfl⟩
    | 2, h =>
      cases h
      have F : FunD K dt_check_costs.name dt_check_costs.qual (defArgs dt_check_costs.st) (defBody dt_check_costs.st) (defScope dt_check_costs.st) [] [] f2 (fdOf dt_check_costs kV2 dc2 pm2 an2 cd2 ct2) := ⟨⟨_, _, _, _, _, _, _, _, _, _, rfl, l2, c2, .inl ⟨rfl, rfl⟩, .inl rfl⟩, k2⟩
      exact ⟨F, sc_check_costs, F.bindsN fun _ _ _ _ _ _ us hl => match us, hl with | [_], _ => rfl⟩
    | 3, h =>
      cases h
      have F : FunD K dt_is_rider.name dt_is_rider.qual (defArgs dt_is_rider.st) (defBody dt_is_rider.st) (defScope dt_is_rider.st) [] [] f3 (fdOf dt_is_rider kV3 dc3 pm3 an3 cd3 ct3) := ⟨⟨_, _, _, _, _, _, _, _, _, _, rfl, l3, c3, .inl ⟨rfl, rfl⟩, .inl rfl⟩, k3⟩
      exact ⟨F, sc_is_rider, F.bindsN fun _ _ _ _ _ _ us hl => match us, hl with | [_, _], _ => rfl⟩
    | 4, h =>
      cases h
      have F : FunD K dt_check_riders.name dt_check_riders.qual (defArgs dt_check_riders.st) (defBody dt_check_riders.st) (defScope dt_check_riders.st) [] [] f4 (fdOf dt_check_riders kV4 dc4 pm4 an4 cd4 ct4) := ⟨⟨_, _, _, _, _, _, _, _, _, _, rfl, l4, c4, .inl ⟨rfl, rfl⟩, .inl rfl⟩, k4⟩
      exact ⟨F, sc_check_riders, F.bindsN fun _ _ _ _ _ _ us hl => match us, hl with | [_, _], _ => rfl⟩
    | 5, h =>
      cases h
      have F : FunD K dt_aboard_at.name dt_aboard_at.qual (defArgs dt_aboard_at.st) (defBody dt_aboard_at.st) (defScope dt_aboard_at.st) [] [] f5 (fdOf dt_aboard_at kV5 dc5 pm5 an5 cd5 ct5) := ⟨⟨_, _, _, _, _, _, _, _, _, _, rfl, l5, c5, .inl ⟨rfl, rfl⟩, .inl rfl⟩, k5⟩
      exact ⟨F, sc_aboard_at, F.bindsN fun _ _ _ _ _ _ us hl => match us, hl with | [_, _], _ => rfl⟩
    | 6, h =>
      cases h
      have F : FunD K dt_is_crowded.name dt_is_crowded.qual (defArgs dt_is_crowded.st) (defBody dt_is_crowded.st) (defScope dt_is_crowded.st) [] [] f6 (fdOf dt_is_crowded kV6 dc6 pm6 an6 cd6 ct6) := ⟨⟨_, _, _, _, _, _, _, _, _, _, rfl, l6, c6, .inl ⟨rfl, rfl⟩, .inl rfl⟩, k6⟩
      exact ⟨F, sc_is_crowded, F.bindsN fun _ _ _ _ _ _ us hl => match us, hl with | [_, _], _ => rfl⟩
    | 7, h =>
      cases h
      have F : FunD K dt_Ride___init__.name dt_Ride___init__.qual (defArgs dt_Ride___init__.st) (defBody dt_Ride___init__.st) (defScope dt_Ride___init__.st) [] [] f7 (fdOf dt_Ride___init__ kV7 dc7 pm7 an7 cd7 ct7) := ⟨⟨_, _, _, _, _, _, _, _, _, _, rfl, l7, c7, .inl ⟨rfl, rfl⟩, .inl rfl⟩, k7⟩
      exact ⟨F, sc_Ride___init__, F.bindsN fun _ _ _ _ _ _ us hl => match us, hl with | [_, _, _], _ => rfl⟩
    | 8, h =>
      cases h
      have F : FunD K dt_Ride_aboard.name dt_Ride_aboard.qual (defArgs dt_Ride_aboard.st) (defBody dt_Ride_aboard.st) (defScope dt_Ride_aboard.st) [] [] f8 (fdOf dt_Ride_aboard kV8 dc8 pm8 an8 cd8 ct8) := ⟨⟨_, _, _, _, _, _, _, _, _, _, rfl, l8, c8, .inl ⟨rfl, rfl⟩, .inl rfl⟩, k8⟩
      exact ⟨F, sc_Ride_aboard, F.bindsN fun _ _ _ _ _ _ us hl => match us, hl with | [_, _], _ => rfl⟩
    | 9, h =>
      cases h
      have F : FunD K dt_Ride_ranked.name dt_Ride_ranked.qual (defArgs dt_Ride_ranked.st) (defBody dt_Ride_ranked.st) (defScope dt_Ride_ranked.st) [] [] f9 (fdOf dt_Ride_ranked kV9 dc9 pm9 an9 cd9 ct9) := ⟨⟨_, _, _, _, _, _, _, _, _, _, rfl, l9, c9, .inl ⟨rfl, rfl⟩, .inl rfl⟩, k9⟩
      exact ⟨F, sc_Ride_ranked, F.bindsN fun _ _ _ _ _ _ us hl => match us, hl with | [_, _, _], _ => rfl⟩
    | 10, h =>
      cases h
      have F : FunD K dt_Ride___len__.name dt_Ride___len__.qual (defArgs dt_Ride___len__.st) (defBody dt_Ride___len__.st) (defScope dt_Ride___len__.st) [] [] f10 (fdOf dt_Ride___len__ kV10 dc10 pm10 an10 cd10 ct10) := ⟨⟨_, _, _, _, _, _, _, _, _, _, rfl, l10, c10, .inl ⟨rfl, rfl⟩, .inl rfl⟩, k10⟩
      exact ⟨F, sc_Ride___len__, F.bindsN fun _ _ _ _ _ _ us hl => match us, hl with | [_], _ => rfl⟩
    | 11, h =>
      cases h
      have F : FunD K dt_Ride___eq__.name dt_Ride___eq__.qual (defArgs dt_Ride___eq__.st) (defBody dt_Ride___eq__.st) (defScope dt_Ride___eq__.st) [] [] f11 (fdOf dt_Ride___eq__ kV11 dc11 pm11 an11 cd11 ct11) := ⟨⟨_, _, _, _, _, _, _, _, _, _, rfl, l11, c11, .inl ⟨rfl, rfl⟩, .inl rfl⟩, k11⟩
      exact ⟨F, sc_Ride___eq__, F.bindsN fun _ _ _ _ _ _ us hl => match us, hl with | [_, _], _ => rfl⟩
    | 12, h =>
      cases h
      have F : FunD K dt_Ride___repr__.name dt_Ride___repr__.qual (defArgs dt_Ride___repr__.st) (defBody dt_Ride___repr__.st) (defScope dt_Ride___repr__.st) [] [] f12 (fdOf dt_Ride___repr__ kV12 dc12 pm12 an12 cd12 ct12) := ⟨⟨_, _, _, _, _, _, _, _, _, _, rfl, l12, c12, .inl ⟨rfl, rfl⟩, .inl rfl⟩, k12⟩
      exact ⟨F, sc_Ride___repr__, F.bindsN fun _ _ _ _ _ _ us hl => match us, hl with | [_], _ => rfl⟩
    | 13, h =>
      cases h
      have F : FunD K dt_check_stretch.name dt_check_stretch.qual (defArgs dt_check_stretch.st) (defBody dt_check_stretch.st) (defScope dt_check_stretch.st) [] [] f13 (fdOf dt_check_stretch kV13 dc13 pm13 an13 cd13 ct13) := ⟨⟨_, _, _, _, _, _, _, _, _, _, rfl, l13, c13, .inl ⟨rfl, rfl⟩, .inl rfl⟩, k13⟩
      exact ⟨F, sc_check_stretch, F.bindsN fun _ _ _ _ _ _ us hl => match us, hl with | [_, _], _ => rfl⟩
    | 14, h =>
      cases h
      have F : FunD K dt__law_jug.name dt__law_jug.qual (defArgs dt__law_jug.st) (defBody dt__law_jug.st) (defScope dt__law_jug.st) [] [] f14 (fdOf dt__law_jug kV14 dc14 pm14 an14 cd14 ct14) := ⟨⟨_, _, _, _, _, _, _, _, _, _, rfl, l14, c14, .inl ⟨rfl, rfl⟩, .inl rfl⟩, k14⟩
      exact ⟨F, sc__law_jug, F.bindsN fun _ _ _ _ _ _ us hl => match us, hl with | [_, _], _ => rfl⟩
    | 15, h =>
      cases h
      have F : FunD K dt__law_drop.name dt__law_drop.qual (defArgs dt__law_drop.st) (defBody dt__law_drop.st) (defScope dt__law_drop.st) [] [] f15 (fdOf dt__law_drop kV15 dc15 pm15 an15 cd15 ct15) := ⟨⟨_, _, _, _, _, _, _, _, _, _, rfl, l15, c15, .inl ⟨rfl, rfl⟩, .inl rfl⟩, k15⟩
      exact ⟨F, sc__law_drop, F.bindsN fun _ _ _ _ _ _ us hl => match us, hl with | [_, _], _ => rfl⟩
    | 16, h =>
      cases h
      have F : FunD K dt__law_one.name dt__law_one.qual (defArgs dt__law_one.st) (defBody dt__law_one.st) (defScope dt__law_one.st) [] [] f16 (fdOf dt__law_one kV16 dc16 pm16 an16 cd16 ct16) := ⟨⟨_, _, _, _, _, _, _, _, _, _, rfl, l16, c16, .inl ⟨rfl, rfl⟩, .inl rfl⟩, k16⟩
      exact ⟨F, sc__law_one, F.bindsN fun _ _ _ _ _ _ us hl => match us, hl with | [_, _], _ => rfl⟩
    | 17, h =>
      cases h
      have F : FunD K dt__law_crowd.name dt__law_crowd.qual (defArgs dt__law_crowd.st) (defBody dt__law_crowd.st) (defScope dt__law_crowd.st) [] [] f17 (fdOf dt__law_crowd kV17 dc17 pm17 an17 cd17 ct17) := ⟨⟨_, _, _, _, _, _, _, _, _, _, rfl, l17, c17, .inl ⟨rfl, rfl⟩, .inl rfl⟩, k17⟩
      exact ⟨F, sc__law_crowd, F.bindsN fun _ _ _ _ _ _ us hl => match us, hl with | [_, _], _ => rfl⟩
    | 18, h =>
      cases h
      have F : FunD K dt__law_trip.name dt__law_trip.qual (defArgs dt__law_trip.st) (defBody dt__law_trip.st) (defScope dt__law_trip.st) [] [] f18 (fdOf dt__law_trip kV18 dc18 pm18 an18 cd18 ct18) := ⟨⟨_, _, _, _, _, _, _, _, _, _, rfl, l18, c18, .inl ⟨rfl, rfl⟩, .inl rfl⟩, k18⟩
      exact ⟨F, sc__law_trip, F.bindsN fun _ _ _ _ _ _ us hl => match us, hl with | [_, _], _ => rfl⟩
    | 19, h =>
      cases h
      have F : FunD K dt__law_right.name dt__law_right.qual (defArgs dt__law_right.st) (defBody dt__law_right.st) (defScope dt__law_right.st) [] [] f19 (fdOf dt__law_right kV19 dc19 pm19 an19 cd19 ct19) := ⟨⟨_, _, _, _, _, _, _, _, _, _, rfl, l19, c19, .inl ⟨rfl, rfl⟩, .inl rfl⟩, k19⟩
      exact ⟨F, sc__law_right, F.bindsN fun _ _ _ _ _ _ us hl => match us, hl with | [_], _ => rfl⟩
    | 20, h =>
      cases h
      have F : FunD K dt_law.name dt_law.qual (defArgs dt_law.st) (defBody dt_law.st) (defScope dt_law.st) [] [] fl (fdOf dt_law kV20 dc20 pm20 an20 cd20 ct20) := ⟨⟨_, _, _, _, _, _, _, _, _, _, rfl, l20, c20, .inl ⟨rfl, rfl⟩, .inl rfl⟩, k20⟩
      exact ⟨F, sc_law, F.bindsN fun _ _ _ _ _ _ us hl => match us, hl with | [_], _ => rfl⟩
    | _ + 21, h => simp at h
  have hB : ∀ j d, DT[j]? = some d → ∀ (S : Nat → List MV → Sto → R MV) (l2 : Nat) (cdv : Value) (Ar : Around) (outer : List Env) (s : Shared) (H : Hp) (E : XK), Gd A (cxi d l.prog w K mg base (p.fa j) cdv Ar outer s H E) (fun cls d _ H' => E cls d H') DT p S l2 →
      PMSs A (cxi d l.prog w K mg base (p.fa j) cdv Ar outer s H E) (fun cls d _ H' => E cls d H') (defBody d.st) (den j S) := by
    intro j d h S l2 cdv Ar outer s H E Gd
    match j, h with
    | 0, h => cases h; exact b_is_integer T Gd
    | 1, h => cases h; exact b_is_between T Gd
    | 2, h => cases h; exact b_check_costs T Gd
    | 3, h => cases h; exact b_is_rider T Gd
    | 4, h => cases h; exact b_check_riders T Gd
    | 5, h => cases h; exact b_aboard_at T Gd
    | 6, h => cases h; exact b_is_crowded T Gd
    | 7, h => cases h; exact b_Ride___init__ T Gd
    | 8, h => cases h; exact b_Ride_aboard T Gd
    | 9, h => cases h; exact b_Ride_ranked T Gd
    | 10, h => cases h; exact b_Ride___len__ T Gd
    | 11, h => cases h; exact b_Ride___eq__ T Gd
    | 12, h => cases h; exact b_Ride___repr__ T Gd
    | 13, h => cases h; exact b_check_stretch T Gd
    | 14, h => cases h; exact b__law_jug T Gd
    | 15, h => cases h; exact b__law_drop T Gd
    | 16, h => cases h; exact b__law_one T Gd
    | 17, h => cases h; exact b__law_crowd T Gd
    | 18, h => cases h; exact b__law_trip T Gd
    | 19, h => cases h; exact b__law_right T Gd
    | 20, h => cases h; exact b_law T Gd
    | _ + 21, h => simp at h
  exact fns_all hD hB 12 F_law dt_law rfl
end Kk01

open PySem PySem.W PyProof.Rows in
set_option maxRecDepth 100000 in
set_option maxHeartbeats 0 in
theorem PySem.Challenge.cw_cabshares_k01_rides_made_holds : PySem.Challenge.rw_cabshares_k01_rides_made.Holds := by
  w_on; o_law; k_head; (case hw => w_witness2)
  k_fill
  refine CS.law_end (l := PySem.Challenge.rw_cabshares_k01_rides_made) (n := 63) (k := 4 * 12) (x := "_law_script") (sem := Kk01.sem 12 Kk01.F_law) rfl (by decide) rfl ⟨rfl, by decide, by decide⟩ (fun w h Y => PySem.W.kIn_of Y) (fun w => ?NL) ?F Kk01.law_holds
  case NL => kernel_rfl
  case F =>
    intro w mg fa h KX G hmg
    refine' Kk01.all_mk KX G hmg ?aC6 ?a0 ?l0 ?c0 ?k0 ?a1 ?l1 ?c1 ?k1 ?a2 ?l2 ?c2 ?k2 ?a3 ?l3 ?c3 ?k3 ?a4 ?l4 ?c4 ?k4 ?a5 ?l5 ?c5 ?k5 ?a6 ?l6 ?c6 ?k6 ?a7 ?i7 ?l7 ?c7 ?k7 ?a8 ?i8 ?l8 ?c8 ?k8 ?a9 ?i9 ?l9 ?c9 ?k9 ?a10 ?i10 ?l10 ?c10 ?k10 ?a11 ?i11 ?l11 ?c11 ?k11 ?a12 ?i12 ?l12 ?c12 ?k12 ?a13 ?l13 ?c13 ?k13 ?a14 ?l14 ?c14 ?k14 ?a15 ?l15 ?c15 ?k15 ?a16 ?l16 ?c16 ?k16 ?a17 ?l17 ?c17 ?k17 ?a18 ?l18 ?c18 ?k18 ?a19 ?l19 ?c19 ?k19 ?a20 ?l20 ?c20 ?k20 ?pg6 ?hd6 ?po6 ?sa6 ?mk6 ?kc6 ?ha6 ?hm6 ?cd_6 ?ty6 ?sb6_NoneType ?sb6_bool ?sb6_int ?sb6_str ?sb6_tuple ?sb6_list ?so6_tuple ?so6_int ?so6_bool ?so6_str ?so6_object ?ne6 ?nb6 ?na6_costs ?na6_riders ?na6_told ?hn_ ?htk_ ?v_MOST_ABOARD ?v_MOST_BAGS ?v_MOST_COST ?v_MOST_RIDERS ?v_MOST_STRETCHES ?z_abs ?z_all ?z_any ?z_bool ?z_divmod ?z_enumerate ?z_int ?z_isinstance ?z_len ?z_max ?z_min ?z_range ?z_repr ?z_str ?z_tuple
    (case aC6 => k_is)
    (case a0 => k_is)
    (case l0 => k_is)
    (case c0 => k_is)
    (case k0 => k_is)
    (case a1 => k_is)
    (case l1 => k_is)
    (case c1 => k_is)
    (case k1 => k_is)
    (case a2 => k_is)
    (case l2 => k_is)
    (case c2 => k_is)
    (case k2 => k_is)
    (case a3 => k_is)
    (case l3 => k_is)
    (case c3 => k_is)
    (case k3 => k_is)
    (case a4 => k_is)
    (case l4 => k_is)
    (case c4 => k_is)
    (case k4 => k_is)
    (case a5 => k_is)
    (case l5 => k_is)
    (case c5 => k_is)
    (case k5 => k_is)
    (case a6 => k_is)
    (case l6 => k_is)
    (case c6 => k_is)
    (case k6 => k_is)
    (case a7 => k_is)
    (case i7 => k_is)
    (case l7 => k_is)
    (case c7 => k_is)
    (case k7 => k_is)
    (case a8 => k_is)
    (case i8 => k_is)
    (case l8 => k_is)
    (case c8 => k_is)
    (case k8 => k_is)
    (case a9 => k_is)
    (case i9 => k_is)
    (case l9 => k_is)
    (case c9 => k_is)
    (case k9 => k_is)
    (case a10 => k_is)
    (case i10 => k_is)
    (case l10 => k_is)
    (case c10 => k_is)
    (case k10 => k_is)
    (case a11 => k_is)
    (case i11 => k_is)
    (case l11 => k_is)
    (case c11 => k_is)
    (case k11 => k_is)
    (case a12 => k_is)
    (case i12 => k_is)
    (case l12 => k_is)
    (case c12 => k_is)
    (case k12 => k_is)
    (case a13 => k_is)
    (case l13 => k_is)
    (case c13 => k_is)
    (case k13 => k_is)
    (case a14 => k_is)
    (case l14 => k_is)
    (case c14 => k_is)
    (case k14 => k_is)
    (case a15 => k_is)
    (case l15 => k_is)
    (case c15 => k_is)
    (case k15 => k_is)
    (case a16 => k_is)
    (case l16 => k_is)
    (case c16 => k_is)
    (case k16 => k_is)
    (case a17 => k_is)
    (case l17 => k_is)
    (case c17 => k_is)
    (case k17 => k_is)
    (case a18 => k_is)
    (case l18 => k_is)
    (case c18 => k_is)
    (case k18 => k_is)
    (case a19 => k_is)
    (case l19 => k_is)
    (case c19 => k_is)
    (case k19 => k_is)
    (case a20 => k_is)
    (case l20 => k_is)
    (case c20 => k_is)
    (case k20 => k_is)
    (case pg6 => k_is)
    (case hd6 => k_is)
    (case po6 => k_is)
    (case sa6 => k_is)
    (case mk6 => k_is)
    (case kc6 => k_is)
    (case ha6 => k_is)
    (case hm6 => k_is)
    (case cd_6 => k_is)
    (case ty6 => k_is)
    (case sb6_NoneType => k_is)
    (case sb6_bool => k_is)
    (case sb6_int => k_is)
    (case sb6_str => k_is)
    (case sb6_tuple => k_is)
    (case sb6_list => k_is)
    (case so6_tuple => k_is)
    (case so6_int => k_is)
    (case so6_bool => k_is)
    (case so6_str => k_is)
    (case so6_object => k_is)
    (case ne6 => k_is)
    (case nb6 => k_is)
    (case na6_costs => k_is)
    (case na6_riders => k_is)
    (case na6_told => k_is)
    (case hn_ => k_is)
    (case htk_ => k_is)
    (case v_MOST_ABOARD => k_is)
    (case v_MOST_BAGS => k_is)
    (case v_MOST_COST => k_is)
    (case v_MOST_RIDERS => k_is)
    (case v_MOST_STRETCHES => k_is)
    (case z_abs => k_is)
    (case z_all => k_is)
    (case z_any => k_is)
    (case z_bool => k_is)
    (case z_divmod => k_is)
    (case z_enumerate => k_is)
    (case z_int => k_is)
    (case z_isinstance => k_is)
    (case z_len => k_is)
    (case z_max => k_is)
    (case z_min => k_is)
    (case z_range => k_is)
    (case z_repr => k_is)
    (case z_str => k_is)
    (case z_tuple => k_is)
