import PyProof.Rows.All
import Wide.All
import OpenK.AllK
import Wide.FinOn
import HandS.ForMost
import HandS.Wide
import HandS.Gcd
import HandS.IsInst
import HandS.Walk
import HandS.AnyAll
import HandS.TupAny
import HandS.TupLe
import HandS.Rev
import HandS.SortInts
import HandS.Style
import PySem.Challenge.RW_semigrove_k80_whole_near_fractions
set_option Elab.async false
set_option linter.all false
set_option maxRecDepth 100000
set_option maxHeartbeats 8000000
/-! G: a symbolic layer over the hand layer. Values of a def's names are told as frozen data, frozen instances or owned mutable objects (SV);
the heap by its owned mutable objects alone (FP). -/
namespace G
open PySem L2

/-- a symbolic value -/
inductive SV where
  /-- frozen data -/
  | d (x : PyData)
  /-- a frozen instance of the class at C with fields of data -/
  | o (C : Addr) (fs : List (Str × PyData))
  /-- a raw value -/
  | v (x : V)
  /-- an owned mutable object, told in the footprint -/
  | m (a : Addr)
/-- what an owned object holds -/
inductive MO where
  | lst (xs : List SV)
  | ins (C dx : Addr) (fs : List (Str × SV))
  | raw (o : HO)
abbrev FP := List (Addr × MO)
abbrev SS := List (Option SV)
/-- the context: module facts, tables, hidden addresses, borrowed addresses, the heap at the entry -/
structure CC (K : PySem.W.Frag) (T : List Addr) where
  U : Addr → Prop
  B : Addr → Prop
  H0 : Hp
  hU : ∀ a, U a → ¬ B a ∧ a ∉ T ∧ H0 a ≠ none
open Classical in
noncomputable def hid (U : Addr → Prop) (T : List Addr) (F : FP) (H : Hp) : Hp := fun a => if U a ∨ a ∈ T ∨ a ∈ F.map (·.1) then none else H a
theorem hid_some {U : Addr → Prop} {T : List Addr} {F : FP} {H : Hp} {a : Addr} {o : HO} : hid U T F H a = some o ↔ (¬ U a ∧ a ∉ T ∧ a ∉ F.map (·.1)) ∧ H a = some o := by
  unfold hid
  by_cases h : U a ∨ a ∈ T ∨ a ∈ F.map (·.1)
  · rw [if_pos h]
    constructor
    · intro z; cases z
    · intro ⟨⟨h1, h2, h3⟩, _⟩
      rcases h with h | h | h
      · exact absurd h h1
      · exact absurd h h2
      · exact absurd h h3
  · rw [if_neg h]
    constructor
    · intro z
      exact ⟨⟨fun q => h (.inl q), fun q => h (.inr (.inl q)), fun q => h (.inr (.inr q))⟩, z⟩
    · intro ⟨_, z⟩; exact z

/-- all that H tells H' tells -/
def Sub (H H' : Hp) : Prop := ∀ a o, H a = some o → H' a = some o
theorem Sub.refl (H : Hp) : Sub H H := fun _ _ h => h
theorem Sub.trans {H H1 H2 : Hp} (a : Sub H H1) (b : Sub H1 H2) : Sub H H2 := fun x o h => b x o (a x o h)
theorem hid_sub {U : Addr → Prop} {T : List Addr} {F : FP} {H : Hp} : Sub (hid U T F H) H := fun _ _ h => (hid_some.mp h).2
section
variable {K : PySem.W.Frag} {H H' : Hp}
theorem rd_sub (s : Sub H H') {a : Addr} {u : HO} (h : Rd H a u) : Rd H' a u := by
  rcases h with h | ⟨o, h⟩
  · exact .inl (s a _ h)
  · exact .inr ⟨o, s a _ h⟩
theorem sql_sub (s : Sub H H') {a : Addr} {xs : List V} (h : SqL K H a xs) : SqL K H' a xs := by
  rcases h with h | h
  · exact .inl (rd_sub s h)
  · exact .inr h
theorem sqt_sub (s : Sub H H') {a : Addr} {xs : List V} (h : SqT K H a xs) : SqT K H' a xs := by
  rcases h with h | h
  · exact .inl (rd_sub s h)
  · exact .inr h
mutual
theorem dp_sub (s : Sub H H') : ∀ {v : V} {d : PyData}, Dp K H v d → Dp K H' v d
  | _, _, .non => .non
  | _, _, .bl b => .bl b
  | _, _, .int i => .int i
  | _, _, .str x => .str x
  | _, _, .lst h a => .lst (sql_sub s h) (dps_sub s a)
  | _, _, .tup h a => .tup (sqt_sub s h) (dps_sub s a)
theorem dps_sub (s : Sub H H') : ∀ {vs : List V} {ds : List PyData}, DpAll K H vs ds → DpAll K H' vs ds
  | _, _, .nil => .nil
  | _, _, .cons h a => .cons (dp_sub s h) (dps_sub s a)
end
/-- data without lists or dicts -/
inductive Imm : PyData → Prop
  | non : Imm .none
  | bl (b) : Imm (.bool b)
  | int (i) : Imm (.int i)
  | str (x) : Imm (.str x)
  | tup {ds : List PyData} : (∀ d ∈ ds, Imm d) → Imm (.tuple ds)
/-- tuples stay -/
def SubT (H H' : Hp) : Prop := ∀ a xs, Rd H a (.tup xs) → Rd H' a (.tup xs)
theorem sqt_subT (s : SubT H H') {a : Addr} {xs : List V} (h : SqT K H a xs) : SqT K H' a xs := by
  rcases h with h | h
  · exact .inl (s a _ h)
  · exact .inr h
mutual
theorem dp_imm (s : SubT H H') : ∀ {v : V} {d : PyData}, Dp K H v d → Imm d → Dp K H' v d
  | _, _, .non, _ => .non
  | _, _, .bl b, _ => .bl b
  | _, _, .int i, _ => .int i
  | _, _, .str x, _ => .str x
  | _, _, .lst h a, i => nomatch i
  | _, _, .tup h a, i => .tup (sqt_subT s h) (dps_imm s a (by cases i with | tup k => exact k))
theorem dps_imm (s : SubT H H') : ∀ {vs : List V} {ds : List PyData}, DpAll K H vs ds → (∀ d ∈ ds, Imm d) → DpAll K H' vs ds
  | _, _, .nil, _ => .nil
  | _, _, .cons h a, i => .cons (dp_imm s h (i _ (List.mem_cons_self))) (dps_imm s a fun d hd => i d (List.mem_cons_of_mem _ hd))
end
theorem dps_len : ∀ {vs : List V} {ds : List PyData}, DpAll K H vs ds → vs.length = ds.length
  | _, _, .nil => rfl
  | _, _, .cons _ a => by simp [dps_len a]
theorem dps_get : ∀ {vs : List V} {ds : List PyData} {i : Nat} {d : PyData}, DpAll K H vs ds → ds[i]? = some d → ∃ v, vs[i]? = some v ∧ Dp K H v d
  | _, _, _, _, .nil, h => by simp at h
  | _, _, 0, _, .cons h a, e => by simp at e; subst e; exact ⟨_, rfl, h⟩
  | _, _, i + 1, _, .cons h a, e => by
    obtain ⟨v, q, r⟩ := dps_get (i := i) a (by simpa using e)
    exact ⟨v, by simpa using q, r⟩
theorem dps_getV : ∀ {vs : List V} {ds : List PyData} {i : Nat} {v : V}, DpAll K H vs ds → vs[i]? = some v → ∃ d, ds[i]? = some d ∧ Dp K H v d
  | _, _, _, _, .nil, h => by simp at h
  | _, _, 0, _, .cons h a, e => by simp at e; subst e; exact ⟨_, rfl, h⟩
  | _, _, i + 1, _, .cons h a, e => by
    obtain ⟨v, q, r⟩ := dps_getV (i := i) a (by simpa using e)
    exact ⟨v, by simpa using q, r⟩
theorem dps_app : ∀ {vs ws : List V} {ds es : List PyData}, DpAll K H vs ds → DpAll K H ws es → DpAll K H (vs ++ ws) (ds ++ es)
  | _, _, _, _, .nil, b => b
  | _, _, _, _, .cons h a, b => .cons h (dps_app a b)
theorem dps_take : ∀ {vs : List V} {ds : List PyData} (n : Nat), DpAll K H vs ds → DpAll K H (vs.take n) (ds.take n)
  | _, _, 0, _ => by simp; exact .nil
  | _, _, _ + 1, .nil => .nil
  | _, _, n + 1, .cons h a => .cons h (dps_take n a)
theorem dps_drop : ∀ {vs : List V} {ds : List PyData} (n : Nat), DpAll K H vs ds → DpAll K H (vs.drop n) (ds.drop n)
  | _, _, 0, h => h
  | _, _, _ + 1, .nil => .nil
  | _, _, n + 1, .cons _ a => dps_drop n a
theorem dps_rev : ∀ {vs : List V} {ds : List PyData}, DpAll K H vs ds → DpAll K H vs.reverse ds.reverse
  | _, _, .nil => .nil
  | _, _, .cons h a => by
    rw [List.reverse_cons, List.reverse_cons]
    exact dps_app (dps_rev a) (.cons h .nil)
theorem dps_ints : ∀ {vs : List V} {ns : List Int}, DpAll K H vs (ns.map .int) → vs = ns.map V.int
  | _, [], .nil => rfl
  | _, n :: r, .cons h a => by
    cases h
    rw [dps_ints a]
    rfl
theorem ints_dps : ∀ (ns : List Int), DpAll K H (ns.map V.int) (ns.map .int)
  | [] => .nil
  | n :: r => .cons (.int n) (ints_dps r)

/-- fields -/
abbrev FsR (K : PySem.W.Frag) (H : Hp) : List (Str × V) → List (Str × PyData) → Prop := Paired fun (p : Str × V) (q : Str × PyData) => p.1 = q.1 ∧ Dp K H p.2 q.2
/-- v is what the symbolic value tells, in a heap whose owned objects are hidden -/
def RV (K : PySem.W.Frag) (H : Hp) : SV → V → Prop
  | .d x, v => Dp K H v x
  | .o C fs, v => ∃ a dx vs, v = .ref a ∧ H a = some (.ins C dx vs) ∧ FsR K H vs fs
  | .v u, v => v = u
  | .m a, v => v = .ref a
theorem RV.sub (s : Sub H H') {x : SV} {v : V} (h : RV K H x v) : RV K H' x v := by
  cases x with
  | d x => exact dp_sub s h
  | o C fs =>
    obtain ⟨a, dx, vs, e, h1, h2⟩ := h
    exact ⟨a, dx, vs, e, s _ _ h1, Paired.mapP h2 fun p q z => ⟨z.1, dp_sub s z.2⟩⟩
  | v u => exact h
  | m a => exact h
abbrev RVs (K : PySem.W.Frag) (H : Hp) : List SV → List V → Prop := Paired fun x v => RV K H x v
theorem RVs.sub (s : Sub H H') {xs : List SV} {vs : List V} (h : RVs K H xs vs) : RVs K H' xs vs := Paired.mapP h fun _ _ z => z.sub s
theorem rvs_d : ∀ {ds : List PyData} {vs : List V}, RVs K H (ds.map .d) vs → DpAll K H vs ds
  | [], _, .nil => .nil
  | _ :: _, _, .cons h t => .cons h (rvs_d t)
theorem d_rvs : ∀ {ds : List PyData} {vs : List V}, DpAll K H vs ds → RVs K H (ds.map .d) vs
  | [], _, .nil => .nil
  | _ :: _, _, .cons h t => .cons h (d_rvs t)
/-- what stands at an owned address -/
def RM (K : PySem.W.Frag) (Hh H : Hp) (a : Addr) : MO → Prop
  | .lst xs => ∃ vs, H a = some (.lst vs) ∧ RVs K Hh xs vs
  | .ins C dx fs => ∃ vs, H a = some (.ins C dx vs) ∧ Paired (fun (q : Str × SV) (p : Str × V) => p.1 = q.1 ∧ RV K Hh q.2 p.2) fs vs
  | .raw o => H a = some o
theorem RM.sub {Hh Hh' : Hp} {a : Addr} (s : Sub Hh Hh') (e : H' a = H a) {o : MO} (h : RM K Hh H a o) : RM K Hh' H' a o := by
  cases o with
  | lst xs =>
    obtain ⟨vs, h1, h2⟩ := h
    exact ⟨vs, e.trans h1, h2.sub s⟩
  | ins C dx fs =>
    obtain ⟨vs, h1, h2⟩ := h
    exact ⟨vs, e.trans h1, Paired.mapP h2 fun p q z => ⟨z.1, z.2.sub s⟩⟩
  | raw o => exact e.trans h
end

/-- the heap is so: what the entry's heap told stands, the tables are tables, the owned objects hold what F tells -/
structure As {K : PySem.W.Frag} {T : List Addr} (C : CC K T) (F : FP) (H : Hp) : Prop where
  ex : ∀ a o, ¬ C.B a → a ∉ T → C.H0 a = some o → H a = some o
  tab : ∀ P ∈ T, GxR.TabG H P
  nd : (F.map (·.1)).Nodup
  own : ∀ a, a ∈ F.map (·.1) → a ∉ T ∧ (C.B a ∨ C.H0 a = none)
  mem : ∀ p ∈ F, RM K (hid C.U T F H) H p.1 p.2
noncomputable abbrev CC.hid {K : PySem.W.Frag} {T : List Addr} (C : CC K T) (F : FP) (H : Hp) : Hp := G.hid C.U T F H
/-- the step from (F, H) to (F', H') leaves what is frozen -/
abbrev Ev {K : PySem.W.Frag} {T : List Addr} (C : CC K T) (F : FP) (H : Hp) (F' : FP) (H' : Hp) : Prop := Sub (C.hid F H) (C.hid F' H')
/-- the names -/
abbrev RS (K : PySem.W.Frag) (H : Hp) : SS → L2.St → Prop := Paired fun (s : Option SV) (o : Option V) => ∀ x, s = some x → ∃ v, o = some v ∧ RV K H x v
section
variable {K : PySem.W.Frag} {H H' : Hp} {S : SS} {σ : L2.St}
theorem RS.sub (s : Sub H H') (h : RS K H S σ) : RS K H' S σ := Paired.mapP h fun _ _ z x e => let ⟨v, e', r⟩ := z x e; ⟨v, e', r.sub s⟩
theorem RS.get : ∀ {S : SS} {σ : L2.St} {i : Nat} {x : SV}, RS K H S σ → S[i]? = some (some x) → ∃ v, σ[i]? = some (some v) ∧ RV K H x v
  | _, _, _, _, .nil, e => by simp at e
  | _, _, 0, x, .cons r _, e => by
    simp at e
    obtain ⟨v, q, z⟩ := r x e
    exact ⟨v, by simp [q], z⟩
  | _, _, i + 1, x, .cons _ t, e => by
    obtain ⟨v, q, z⟩ := RS.get (i := i) (x := x) t (by simpa using e)
    exact ⟨v, by simpa using q, z⟩
theorem RS.set {x : SV} {v : V} (r : RV K H x v) : ∀ {S : SS} {σ : L2.St} (i : Nat), RS K H S σ → RS K H (S.set i (some x)) (σ.set i (some v))
  | _, _, _, .nil => .nil
  | _, _, 0, .cons _ t => .cons (fun y e => ⟨v, rfl, by cases e; exact r⟩) t
  | _, _, i + 1, .cons q t => .cons q (RS.set r i t)
theorem RS.setN : ∀ {S : SS} {σ : L2.St} (i : Nat), RS K H S σ → RS K H (S.set i none) (σ.set i none)
  | _, _, _, .nil => .nil
  | _, _, 0, .cons _ t => .cons (fun y e => by cases e) t
  | _, _, i + 1, .cons q t => .cons q (RS.setN i t)
/-- forgetting -/
theorem RS.forget {S' : SS} (h : RS K H S σ) (f : ∀ (i : Nat) (x : SV), S'[i]? = some (some x) → S[i]? = some (some x)) (l : S'.length = S.length) : RS K H S' σ := by
  induction h generalizing S' with
  | nil =>
    cases S' with
    | nil => exact .nil
    | cons a b => simp at l
  | @cons s o S σ r t ih =>
    cases S' with
    | nil => simp at l
    | cons a b =>
      refine .cons (fun x e => ?_) (ih (fun i x e => ?_) (by simpa using l))
      · have := f 0 x (by simp [e])
        simp at this
        exact r x this
      · have := f (i + 1) x (by simpa using e)
        simpa using this
end

/-! ### judgements -/
section
variable {K : PySem.W.Frag} {T : List Addr} (C : CC K T)
/-- an expression -/
def TJ (te : TE) (S : SS) (F : FP) (P : SV → FP → Prop) : Prop :=
  ∀ σ H, RS K (C.hid F H) S σ → As C F H → ∀ Q : VK, (∀ v H' x F', Ev C F H F' H' → As C F' H' → RV K (C.hid F' H') x v → P x F' → Q v H') → te σ H Q
/-- a test -/
def TB (tt : TT) (S : SS) (F : FP) (P : Bool → FP → Prop) : Prop :=
  ∀ σ H, RS K (C.hid F H) S σ → As C F H → ∀ Q : Bool → Hp → Prop, (∀ b H' F', Ev C F H F' H' → As C F' H' → P b F' → Q b H') → tt σ H Q
/-- arguments -/
def TL (ta : TA) (S : SS) (F : FP) (P : List SV → FP → Prop) : Prop :=
  ∀ σ H, RS K (C.hid F H) S σ → As C F H → ∀ Q : List V → Hp → Prop, (∀ vs H' xs F', Ev C F H F' H' → As C F' H' → RVs K (C.hid F' H') xs vs → P xs F' → Q vs H') → ta σ H Q
/-- a two-place operation on values -/
def RO (r : R2) (x y : SV) (F : FP) (P : SV → FP → Prop) : Prop :=
  ∀ H v w, As C F H → RV K (C.hid F H) x v → RV K (C.hid F H) y w → ∀ Q : VK, (∀ z H' u F', Ev C F H F' H' → As C F' H' → RV K (C.hid F' H') u z → P u F' → Q z H') → r v w H Q
/-- a one-place one -/
def RU (r : V → Hp → VK → Prop) (x : SV) (F : FP) (P : SV → FP → Prop) : Prop :=
  ∀ H v, As C F H → RV K (C.hid F H) x v → ∀ Q : VK, (∀ z H' u F', Ev C F H F' H' → As C F' H' → RV K (C.hid F' H') u z → P u F' → Q z H') → r v H Q
/-- a call on values -/
def RC (r : List V → Hp → VK → Prop) (xs : List SV) (F : FP) (P : SV → FP → Prop) : Prop :=
  ∀ H vs, As C F H → RVs K (C.hid F H) xs vs → ∀ Q : VK, (∀ z H' u F', Ev C F H F' H' → As C F' H' → RV K (C.hid F' H') u z → P u F' → Q z H') → r vs H Q
/-- a call by a def's promise -/
def CL (sp : Sp) (xs : List SV) (F : FP) (P : SV → FP → Prop) : Prop := ∀ E : XK, RC C (fun vs H Q => sp vs H Q E) xs F P
/-- the wanted ends of a statement -/
structure SE where
  nx : SS → FP → Prop
  rt : SV → FP → Prop
  bk : SS → FP → Prop := fun _ _ => False
  ct : SS → FP → Prop := fun _ _ => False
structure Cov (F : FP) (H : Hp) (E : SE) (D : Ends) : Prop where
  nx : ∀ σ' H' S' F', Ev C F H F' H' → RS K (C.hid F' H') S' σ' → As C F' H' → E.nx S' F' → D.nx σ' H'
  rt : ∀ v H' x F', Ev C F H F' H' → As C F' H' → RV K (C.hid F' H') x v → E.rt x F' → D.rt v H'
  bk : ∀ σ' H' S' F', Ev C F H F' H' → RS K (C.hid F' H') S' σ' → As C F' H' → E.bk S' F' → D.bk σ' H'
  ct : ∀ σ' H' S' F', Ev C F H F' H' → RS K (C.hid F' H') S' σ' → As C F' H' → E.ct S' F' → D.ct σ' H'
/-- a statement -/
def ST (ts : TS) (S : SS) (F : FP) (E : SE) : Prop := ∀ σ H, RS K (C.hid F H) S σ → As C F H → ∀ D, Cov C F H E D → ts D σ H
/-- a target -/
def TGJ (g : TG) (x : SV) (S : SS) (F : FP) (P : SS → FP → Prop) : Prop :=
  ∀ σ H v, RS K (C.hid F H) S σ → As C F H → RV K (C.hid F H) x v → ∀ Q : L2.St → Hp → Prop, (∀ σ' H' S' F', Ev C F H F' H' → RS K (C.hid F' H') S' σ' → As C F' H' → P S' F' → Q σ' H') → g v σ H Q
/-- an iterator that gives ys -/
def IT (wi : TI) (S : SS) (F : FP) (P : List SV → FP → Prop) : Prop :=
  ∀ σ H, RS K (C.hid F H) S σ → As C F H → ∀ R : It → Hp → Prop,
    (∀ (J : It) H' F' (ys : List SV) (Gd : Hp → Prop) (Yr : Nat → Hp → V → Hp → Prop), Ev C F H F' H' → As C F' H' → Walk J ys.length Gd Yr →
      (∀ F2 H2, Ev C F' H' F2 H2 → As C F2 H2 → Gd H2) →
      (∀ i H2 v H3 F2, Ev C F' H' F2 H2 → As C F2 H2 → i < ys.length → Yr i H2 v H3 → Ev C F2 H2 F2 H3 ∧ As C F2 H3 ∧ ∃ y, ys[i]? = some y ∧ RV K (C.hid F2 H3) y v) →
      P ys F' → R J H') → wi σ H R
end

section
variable {K : PySem.W.Frag} {T : List Addr} {C : CC K T} {S : SS} {F : FP} {P : SV → FP → Prop} {te ta tb : TE} {x y z : SV}
theorem Cov.ev {F' : FP} {H H' : Hp} {E : SE} {D : Ends} (c : Cov C F H E D) (e : Ev C F H F' H') : Cov C F' H' E D :=
  ⟨fun σ' H2 S' F2 e2 => c.nx σ' H2 S' F2 (e.trans e2), fun v H2 x F2 e2 => c.rt v H2 x F2 (e.trans e2), fun σ' H2 S' F2 e2 => c.bk σ' H2 S' F2 (e.trans e2), fun σ' H2 S' F2 e2 => c.ct σ' H2 S' F2 (e.trans e2)⟩
/-- an object that nobody tells is laid: what was is left -/
theorem As.laid {H : Hp} {p : Addr} {o : HO} (a : As C F H) (hp : H p = none) : Ev C F H F (upd H p o) ∧ As C F (upd H p o) := by
  have st : ∀ b u, H b = some u → upd H p o b = some u := fun b u e => by
    rw [upd_ne (ne_of_none e hp)]
    exact e
  have ev : Ev C F H F (upd H p o) := fun b u h => by
    obtain ⟨h1, h2⟩ := hid_some.mp h
    exact hid_some.mpr ⟨h1, st b u h2⟩
  refine ⟨ev, fun b u h1 h2 h3 => st b u (a.ex b u h1 h2 h3), fun P hP => ?_, a.nd, a.own, fun q hq => ?_⟩
  · obtain ⟨ps, e, t⟩ := a.tab P hP
    exact ⟨ps, st _ _ e, t⟩
  · refine (a.mem q hq).sub ev ?_
    refine upd_ne fun e => ?_
    have m := a.mem q hq
    rw [e] at m
    cases h : q.2 with
    | lst xs =>
      rw [h] at m
      obtain ⟨vs, e1, _⟩ := m
      rw [hp] at e1; cases e1
    | ins C dx fs =>
      rw [h] at m
      obtain ⟨vs, e1, _⟩ := m
      rw [hp] at e1; cases e1
    | raw o =>
      rw [h] at m
      have e1 : H p = some o := m
      rw [hp] at e1; cases e1
theorem As.there {H : Hp} (a : As C F H) {q : Addr} (hq : q ∈ F.map (·.1)) : H q ≠ none := by
  obtain ⟨p, hp, rfl⟩ := List.mem_map.mp hq
  have m := a.mem p hp
  intro e
  cases h : p.2 with
  | lst xs =>
    rw [h] at m
    obtain ⟨vs, e1, _⟩ := m
    rw [e] at e1; cases e1
  | ins C dx fs =>
    rw [h] at m
    obtain ⟨vs, e1, _⟩ := m
    rw [e] at e1; cases e1
  | raw o =>
    rw [h] at m
    have e1 : H p.1 = some o := m
    rw [e] at e1; cases e1
theorem As.uT {H : Hp} (a : As C F H) {b : Addr} (hb : C.U b) : H b ≠ none := by
  obtain ⟨h1, h2, h3⟩ := C.hU b hb
  cases e : C.H0 b with
  | none => exact absurd e h3
  | some o =>
    rw [a.ex b o h1 h2 e]
    intro z; cases z
theorem As.notT {H : Hp} (a : As C F H) {p : Addr} (hp : H p = none) : p ∉ T := fun h => by
  obtain ⟨ps, e, _⟩ := a.tab p h
  rw [hp] at e; cases e
/-- a new thing at p is seen -/
theorem As.seen {H : Hp} {p : Addr} {o : HO} (a : As C F H) (hp : H p = none) : C.hid F (upd H p o) p = some o :=
  hid_some.mpr ⟨⟨fun h => a.uT h hp, a.notT hp, fun h => a.there h hp⟩, upd_same⟩
/-- a new object at p is owned -/
theorem As.new {H : Hp} {p : Addr} {o : HO} {mo : MO} (a : As C F H) (hp : H p = none) (hm : ∀ Hh, Sub (C.hid F H) Hh → RM K Hh (upd H p o) p mo) :
    Ev C F H ((p, mo) :: F) (upd H p o) ∧ As C ((p, mo) :: F) (upd H p o) := by
  obtain ⟨ev0, a0⟩ := a.laid (o := o) hp
  have hpF : p ∉ F.map (·.1) := fun h => a.there h hp
  have hb : ∀ b u, C.hid F H b = some u → b ≠ p := fun b u h e => by
    obtain ⟨_, h2⟩ := hid_some.mp h
    rw [e, hp] at h2; cases h2
  have ev : Ev C F H ((p, mo) :: F) (upd H p o) := fun b u h => by
    obtain ⟨⟨h1, h2, h3⟩, h4⟩ := hid_some.mp (ev0 b u h)
    refine hid_some.mpr ⟨⟨h1, h2, fun q => ?_⟩, h4⟩
    rcases List.mem_cons.mp q with q | q
    · exact hb b u h q
    · exact h3 q
  refine ⟨ev, a0.ex, a0.tab, ?_, fun b h => ?_, fun q hq => ?_⟩
  · rw [List.map_cons, List.nodup_cons]
    exact ⟨hpF, a.nd⟩
  · rcases List.mem_cons.mp h with h | h
    · have h : b = p := h
      subst h
      refine ⟨a.notT hp, ?_⟩
      by_cases hB : C.B b
      · exact .inl hB
      · cases e : C.H0 b with
        | none => exact .inr rfl
        | some u =>
          rw [a.ex b u hB (a.notT hp) e] at hp
          cases hp
    · exact a.own b h
  · rcases List.mem_cons.mp hq with rfl | hq
    · exact hm _ ev
    · refine (a.mem q hq).sub ev (upd_ne fun e => ?_)
      exact hpF (List.mem_map.mpr ⟨q, hq, e⟩)
/-- the footprint with another thing at a -/
def setF (F : FP) (a : Addr) (mo : MO) : FP := F.map fun q => if q.1 = a then (a, mo) else q
theorem setF_keys (F : FP) (a : Addr) (mo : MO) : (setF F a mo).map (·.1) = F.map (·.1) := by
  unfold setF
  rw [List.map_map]
  apply List.map_congr_left
  intro q _
  simp only [Function.comp]
  split
  · rename_i h; exact h.symm
  · rfl
theorem setF_mem {F : FP} {a : Addr} {mo : MO} {q : Addr × MO} (h : q ∈ setF F a mo) : (q = (a, mo)) ∨ (q ∈ F ∧ q.1 ≠ a) := by
  obtain ⟨p, hp, e⟩ := List.mem_map.mp h
  split at e
  · exact .inl e.symm
  · rename_i hn
    exact .inr ⟨e ▸ hp, e ▸ hn⟩
/-- an owned object is changed -/
theorem As.put {H : Hp} {p : Addr} {o : HO} {mo mo' : MO} (a : As C F H) (hp : (p, mo) ∈ F) (hm : RM K (C.hid F H) (upd H p o) p mo') :
    Ev C F H (setF F p mo') (upd H p o) ∧ As C (setF F p mo') (upd H p o) := by
  have hpF : p ∈ F.map (·.1) := List.mem_map.mpr ⟨_, hp, rfl⟩
  have ev : Ev C F H (setF F p mo') (upd H p o) := fun b u h => by
    obtain ⟨⟨h1, h2, h3⟩, h4⟩ := hid_some.mp h
    refine hid_some.mpr ⟨⟨h1, h2, by rw [setF_keys]; exact h3⟩, ?_⟩
    rw [upd_ne fun e => h3 (by rw [e]; exact hpF)]
    exact h4
  refine ⟨ev, fun b u h1 h2 h3 => ?_, fun P hP => ?_, by rw [setF_keys]; exact a.nd, by rw [setF_keys]; exact a.own, fun q hq => ?_⟩
  · have nb : b ≠ p := fun e => by
      subst e
      rcases (a.own b hpF).2 with h | h
      · exact h1 h
      · rw [h] at h3; cases h3
    rw [upd_ne nb]
    exact a.ex b u h1 h2 h3
  · obtain ⟨ps, e, t⟩ := a.tab P hP
    exact ⟨ps, by rw [upd_ne fun z => (a.own p hpF).1 (by rw [← z]; exact hP)]; exact e, t⟩
  · rcases setF_mem hq with rfl | ⟨hq, hne⟩
    · exact hm.sub ev rfl
    · exact (a.mem q hq).sub ev (upd_ne hne)
end
end G

namespace G
open PySem L2 RT
abbrev dI (i : Int) : SV := .d (.int i)
abbrev dB (b : Bool) : SV := .d (.bool b)
abbrev dN : SV := .d .none
section
variable {K : PySem.W.Frag} {T : List Addr} {C : CC K T} {S : SS} {F : FP} {P : SV → FP → Prop} {PB : Bool → FP → Prop} {PL : List SV → FP → Prop} {te ta tb : TE} {tt tu : TT} {tl : TA} {x y z : SV} {r : R2}
theorem RV.int {H : Hp} {i : Int} {v : V} (h : RV K H (.d (.int i)) v) : v = .int i := by cases h; rfl
theorem RV.bl {H : Hp} {b : Bool} {v : V} (h : RV K H (.d (.bool b)) v) : v = .bl b := by cases h; rfl
theorem RV.str {H : Hp} {x : Str} {v : V} (h : RV K H (.d (.str x)) v) : v = .str x := by cases h; rfl
theorem RV.non {H : Hp} {v : V} (h : RV K H (.d .none) v) : v = .non := by cases h; rfl

theorem rvI {H : Hp} (i : Int) : RV K H (dI i) (.int i) := Dp.int i
theorem rvB {H : Hp} (i : Bool) : RV K H (dB i) (.bl i) := Dp.bl i
theorem rvN {H : Hp} : RV K H dN .non := Dp.non
theorem rvS {H : Hp} (x : Str) : RV K H (.d (.str x)) (.str x) := Dp.str x

/-! ### expressions -/
theorem tj_var {i : Nat} (h : S[i]? = some (some x)) (k : P x F) : TJ C (tVar i) S F P := fun σ H rs as Q q =>
  let ⟨v, e, r⟩ := rs.get h
  ⟨v, e, q v H x F (Sub.refl _) as r k⟩
theorem tj_int {i : Int} (k : P (dI i) F) : TJ C (tC (.int i)) S F P := fun σ H rs as Q q => q _ H (dI i) F (Sub.refl _) as (rvI i) k
theorem tj_bl {b : Bool} (k : P (dB b) F) : TJ C (tC (.bl b)) S F P := fun σ H rs as Q q => q _ H (dB b) F (Sub.refl _) as (rvB b) k
theorem tj_non (k : P dN F) : TJ C (tC .non) S F P := fun σ H rs as Q q => q _ H dN F (Sub.refl _) as rvN k
theorem tj_str {s : Str} (k : P (.d (.str s)) F) : TJ C (tC (.str s)) S F P := fun σ H rs as Q q => q _ H (.d (.str s)) F (Sub.refl _) as (rvS s) k
theorem tj_ty {n : String} (k : P (.v (.ty n)) F) : TJ C (tC (.ty n)) S F P := fun σ H rs as Q q => q _ H (.v (.ty n)) F (Sub.refl _) as rfl k
theorem tj_ref {a : Addr} (k : P (.v (.ref a)) F) : TJ C (tC (.ref a)) S F P := fun σ H rs as Q q => q _ H (.v (.ref a)) F (Sub.refl _) as rfl k
theorem tj_op (h : TJ C ta S F fun x F1 => TJ C tb S F1 fun y F2 => RO C r x y F2 P) : TJ C (tOp r ta tb) S F P := fun σ H rs as Q q =>
  h σ H rs as _ fun v H1 x F1 e1 a1 r1 h1 => h1 σ H1 (rs.sub e1) a1 _ fun w H2 y F2 e2 a2 r2 h2 => h2 H2 v w a2 (r1.sub e2) r2 Q fun z H3 u F3 e3 a3 r3 p => q z H3 u F3 ((e1.trans e2).trans e3) a3 r3 p
theorem tj_un {r : V → Hp → VK → Prop} (h : TJ C ta S F fun x F1 => RU C r x F1 P) : TJ C (tUn r ta) S F P := fun σ H rs as Q q =>
  h σ H rs as _ fun v H1 x F1 e1 a1 r1 h1 => h1 H1 v a1 r1 Q fun z H3 u F3 e3 a3 r3 p => q z H3 u F3 (e1.trans e3) a3 r3 p
theorem tj_cb {r : List V → Hp → VK → Prop} (h : TL C tl S F fun xs F1 => RC C r xs F1 P) : TJ C (tCB r tl) S F P := fun σ H rs as Q q =>
  h σ H rs as _ fun vs H1 xs F1 e1 a1 r1 h1 => h1 H1 vs a1 r1 Q fun z H3 u F3 e3 a3 r3 p => q z H3 u F3 (e1.trans e3) a3 r3 p
theorem tj_call {sp : Sp} {E : XK} (h : TL C tl S F fun xs F1 => CL C sp xs F1 P) : TJ C (tCall sp [] E tl) S F P := fun σ H rs as Q q =>
  h σ H rs as _ fun vs H1 xs F1 e1 a1 r1 h1 => by
    rw [List.append_nil]
    exact h1 E H1 vs a1 r1 Q fun z H3 u F3 e3 a3 r3 p => q z H3 u F3 (e1.trans e3) a3 r3 p
theorem tl_nil (k : PL [] F) : TL C tNil S F PL := fun σ H rs as Q q => q [] H [] F (Sub.refl _) as .nil k
theorem tl_cons {tr : TA} (h : TJ C ta S F fun x F1 => TL C tr S F1 fun xs F2 => PL (x :: xs) F2) : TL C (tCons ta tr) S F PL := fun σ H rs as Q q =>
  h σ H rs as _ fun v H1 x F1 e1 a1 r1 h1 => h1 σ H1 (rs.sub e1) a1 _ fun vs H2 xs F2 e2 a2 r2 p => q (v :: vs) H2 (x :: xs) F2 (e1.trans e2) a2 (.cons (r1.sub e2) r2) p

/-! ### tests -/
theorem tb_test (h : TJ C te S F fun x F1 => ∃ b, x = dB b ∧ PB b F1) : TB C (tTest te) S F PB := fun σ H rs as Q q =>
  h σ H rs as _ fun v H1 x F1 e1 a1 r1 ⟨b, e, p⟩ => by
    subst e
    exact ⟨b, r1.bl, q b H1 F1 e1 a1 p⟩
theorem tb_B (h : TJ C te S F fun x F1 => ∃ b, x = dB b ∧ PB b F1) : TB C (tB te) S F PB := tb_test h
theorem tb_and (h : TB C tt S F fun b F1 => (b = true → TB C tu S F1 PB) ∧ (b = false → PB false F1)) : TB C (tAnd tt tu) S F PB := fun σ H rs as Q q =>
  h σ H rs as _ fun b H1 F1 e1 a1 h1 => by
    cases b with
    | true => exact h1.1 rfl σ H1 (rs.sub e1) a1 Q fun c H2 F2 e2 a2 p => q c H2 F2 (e1.trans e2) a2 p
    | false => exact q false H1 F1 e1 a1 (h1.2 rfl)
theorem tb_or (h : TB C tt S F fun b F1 => (b = true → PB true F1) ∧ (b = false → TB C tu S F1 PB)) : TB C (tOr tt tu) S F PB := fun σ H rs as Q q =>
  h σ H rs as _ fun b H1 F1 e1 a1 h1 => by
    cases b with
    | false => exact h1.2 rfl σ H1 (rs.sub e1) a1 Q fun c H2 F2 e2 a2 p => q c H2 F2 (e1.trans e2) a2 p
    | true => exact q true H1 F1 e1 a1 (h1.1 rfl)
theorem tb_not (h : TB C tt S F fun b F1 => PB (!b) F1) : TB C (tNot tt) S F PB := fun σ H rs as Q q => h σ H rs as _ fun b H1 F1 e1 a1 p => q (!b) H1 F1 e1 a1 p
theorem tj_if (h : TB C tt S F fun b F1 => (b = true → TJ C ta S F1 P) ∧ (b = false → TJ C tb S F1 P)) : TJ C (tIf tt ta tb) S F P := fun σ H rs as Q q =>
  h σ H rs as _ fun b H1 F1 e1 a1 h1 => by
    cases b with
    | true => exact h1.1 rfl σ H1 (rs.sub e1) a1 Q fun v H2 x F2 e2 a2 r p => q v H2 x F2 (e1.trans e2) a2 r p
    | false => exact h1.2 rfl σ H1 (rs.sub e1) a1 Q fun v H2 x F2 e2 a2 r p => q v H2 x F2 (e1.trans e2) a2 r p
theorem tj_andV (h : TJ C ta S F fun x F1 => ∃ b, x = dB b ∧ (b = true → TJ C tb S F1 P) ∧ (b = false → P (dB false) F1)) : TJ C (tAndV ta tb) S F P := fun σ H rs as Q q =>
  h σ H rs as _ fun v H1 x F1 e1 a1 r1 ⟨b, e, h1⟩ => by
    subst e
    refine ⟨b, r1.bl, ?_⟩
    cases b with
    | true => exact h1.1 rfl σ H1 (rs.sub e1) a1 Q fun v H2 x F2 e2 a2 r p => q v H2 x F2 (e1.trans e2) a2 r p
    | false => exact q _ H1 (dB false) F1 e1 a1 (rvB false) (h1.2 rfl)
theorem tj_orV (h : TJ C ta S F fun x F1 => ∃ b, x = dB b ∧ (b = false → TJ C tb S F1 P) ∧ (b = true → P (dB true) F1)) : TJ C (tOrV ta tb) S F P := fun σ H rs as Q q =>
  h σ H rs as _ fun v H1 x F1 e1 a1 r1 ⟨b, e, h1⟩ => by
    subst e
    refine ⟨b, r1.bl, ?_⟩
    cases b with
    | false => exact h1.1 rfl σ H1 (rs.sub e1) a1 Q fun v H2 x F2 e2 a2 r p => q v H2 x F2 (e1.trans e2) a2 r p
    | true => exact q _ H1 (dB true) F1 e1 a1 (rvB true) (h1.2 rfl)
theorem tj_notV (h : TJ C ta S F fun x F1 => ∃ b, x = dB b ∧ P (dB (!b)) F1) : TJ C (tNotV ta) S F P := fun σ H rs as Q q =>
  h σ H rs as _ fun v H1 x F1 e1 a1 r1 ⟨b, e, p⟩ => by
    subst e
    exact ⟨b, r1.bl, q _ H1 (dB (!b)) F1 e1 a1 (rvB _) p⟩

/-! ### statements -/
variable {E : SE} {D : Ends} {t u : TS} {c : TT} {g : TG}
theorem st_seq (h : ST C t S F { E with nx := fun S' F' => ST C u S' F' E }) : ST C (tSeq t u) S F E := fun σ H rs as D cv =>
  h σ H rs as { D with nx := u D } ⟨fun σ' H' S' F' e rs' as' h' => h' σ' H' rs' as' D (cv.ev e), cv.rt, cv.bk, cv.ct⟩
theorem st_next (h : E.nx S F) : ST C tNext S F E := fun σ H rs as D cv => cv.nx σ H S F (Sub.refl _) rs as h
theorem st_break (h : E.bk S F) : ST C tBreak S F E := fun σ H rs as D cv => cv.bk σ H S F (Sub.refl _) rs as h
theorem st_cont (h : E.ct S F) : ST C tCont S F E := fun σ H rs as D cv => cv.ct σ H S F (Sub.refl _) rs as h
theorem st_asg (h : TJ C te S F fun x F1 => TGJ C g x S F1 E.nx) : ST C (tAsg te g) S F E := fun σ H rs as D cv =>
  h σ H rs as _ fun v H1 x F1 e1 a1 r1 h1 => h1 σ H1 v (rs.sub e1) a1 r1 _ fun σ' H' S' F' e rs' as' p => cv.nx σ' H' S' F' (e1.trans e) rs' as' p
theorem tg_name {i : Nat} {PS : SS → FP → Prop} (h : PS (S.set i (some x)) F) : TGJ C (gName i) x S F PS := fun σ H v rs as r Q q => q _ H _ F (Sub.refl _) (RS.set r i rs) as h
theorem st_ret (h : TJ C te S F E.rt) : ST C (tRet te) S F E := fun σ H rs as D cv => h σ H rs as _ fun v H1 x F1 e1 a1 r1 p => cv.rt v H1 x F1 e1 a1 r1 p
theorem st_drop (h : TJ C te S F fun _ F1 => E.nx S F1) : ST C (tDrop te) S F E := fun σ H rs as D cv => h σ H rs as _ fun v H1 x F1 e1 a1 r1 p => cv.nx σ H1 S F1 e1 (rs.sub e1) a1 p
theorem st_if (h : TB C c S F fun b F1 => (b = true → ST C t S F1 E) ∧ (b = false → ST C u S F1 E)) : ST C (tIfS c t u) S F E := fun σ H rs as D cv =>
  h σ H rs as _ fun b H1 F1 e1 a1 h1 => by
    cases b with
    | true => exact h1.1 rfl σ H1 (rs.sub e1) a1 D (cv.ev e1)
    | false => exact h1.2 rfl σ H1 (rs.sub e1) a1 D (cv.ev e1)
theorem st_par {i j : Nat} (h : TL C tl S F fun xs F1 => ∃ x y, xs = [x, y] ∧ E.nx ((S.set i (some x)).set j (some y)) F1) : ST C (tPar i j tl) S F E := fun σ H rs as D cv =>
  h σ H rs as _ fun vs H1 xs F1 e1 a1 r1 ⟨x, y, e, p⟩ => by
    subst e
    cases r1 with
    | cons r1 t => cases t with
      | cons r2 t => cases t with
        | nil => exact ⟨_, _, rfl, cv.nx _ H1 _ F1 e1 (RS.set r2 j (RS.set r1 i (rs.sub e1))) a1 p⟩
theorem st_never (h : False) : ST C tNever S F E := h.elim
/-- x op= e of ints -/
theorem st_aug {i : Nat} {f : Int → Int → Int} {a : Int} (hx : S[i]? = some (some (dI a))) (h : TJ C te S F fun y F1 => ∃ b, y = dI b ∧ E.nx (S.set i (some (dI (f a b)))) F1) : ST C (tAug i te (ipI f)) S F E := fun σ H rs as D cv => by
  obtain ⟨v, e, r⟩ := rs.get hx
  refine ⟨v, e, h σ H rs as _ fun w H1 y F1 e1 a1 r1 ⟨b, ey, p⟩ => ?_⟩
  subst ey
  exact ⟨a, b, r.int, r1.int, cv.nx _ H1 _ F1 e1 (RS.set (rvI _) i (rs.sub e1)) a1 p⟩

/-! ### loops -/
theorem st_for {wi : TI} (h : IT C wi S F fun ys F1 => ∃ I : Nat → SS → FP → Prop, I 0 S F1 ∧
    (∀ i y S' F', ys[i]? = some y → I i S' F' → TGJ C g y S' F' fun S2 F2 => ST C t S2 F2 { nx := I (i + 1), ct := I (i + 1), bk := E.nx, rt := E.rt }) ∧ ∀ S' F', I ys.length S' F' → E.nx S' F') : ST C (tFor wi g t) S F E := fun σ H rs as D cv => by
  refine h σ H rs as _ fun J H1 F1 ys Gd Yr e1 a1 W hG hY ⟨I, i0, turn, done⟩ => ?_
  refine for_it (D := D) (H := H1) (σ := σ) W (fun i σ' H' => ∃ S' F', Ev C F1 H1 F' H' ∧ RS K (C.hid F' H') S' σ' ∧ As C F' H' ∧ I i S' F') ⟨S, F1, Sub.refl _, rs.sub e1, a1, i0⟩ (fun i σ' H' _ ⟨S', F', e, _, a, _⟩ => hG F' H' e a) ?_ ?_
  · rintro i x σ' H' H3 hi ⟨S', F', e, rs', a, iv⟩ hy
    obtain ⟨e3, a3, y, ey, ry⟩ := hY i H' x H3 F' e a hi hy
    refine turn i y S' F' ey iv σ' H3 x (rs'.sub e3) a3 ry _ fun σ2 H2 S2 F2 e4 rs2 a4 hb => ?_
    refine hb σ2 H2 rs2 a4 _ ⟨fun σ5 H5 S5 F5 e5 rs5 a5 p => ⟨S5, F5, ((e.trans e3).trans e4).trans e5, rs5, a5, p⟩, fun v H5 x F5 e5 => cv.rt v H5 x F5 ((((e1.trans e).trans e3).trans e4).trans e5),
      fun σ5 H5 S5 F5 e5 => cv.nx σ5 H5 S5 F5 ((((e1.trans e).trans e3).trans e4).trans e5), fun σ5 H5 S5 F5 e5 rs5 a5 p => ⟨S5, F5, ((e.trans e3).trans e4).trans e5, rs5, a5, p⟩⟩
  · rintro σ' H' ⟨S', F', e, rs', a, iv⟩
    exact cv.nx σ' H' S' F' (e1.trans e) rs' a (done S' F' iv)
theorem st_while (I : Nat → SS → FP → Prop) (h0 : ∃ m, I m S F)
    (hs : ∀ m S' F', I m S' F' → TB C c S' F' fun b F2 => (b = true → ST C t S' F2 { nx := fun S3 F3 => ∃ m', m' < m ∧ I m' S3 F3, ct := fun S3 F3 => ∃ m', m' < m ∧ I m' S3 F3, bk := E.nx, rt := E.rt }) ∧ (b = false → E.nx S' F2)) : ST C (tWhile c t) S F E := fun σ H rs as D cv => by
  obtain ⟨m0, i0⟩ := h0
  refine ⟨fun m σ' H' => ∃ S' F', Ev C F H F' H' ∧ RS K (C.hid F' H') S' σ' ∧ As C F' H' ∧ I m S' F', ⟨m0, S, F, Sub.refl _, rs, as, i0⟩, ?_⟩
  rintro m σ' H' ⟨S', F', e, rs', a, iv⟩
  refine hs m S' F' iv σ' H' rs' a _ fun b H2 F2 e2 a2 hb => ?_
  cases b with
  | false => exact cv.nx σ' H2 S' F2 (e.trans e2) (rs'.sub e2) a2 (hb.2 rfl)
  | true =>
    refine ⟨fun σ3 H3 => ∃ m', m' < m ∧ ∃ S' F', Ev C F H F' H3 ∧ RS K (C.hid F' H3) S' σ3 ∧ As C F' H3 ∧ I m' S' F', fun σ3 H3 z => z, ?_⟩
    refine hb.1 rfl σ' H2 (rs'.sub e2) a2 _ ⟨fun σ5 H5 S5 F5 e5 rs5 a5 ⟨m', hm, p⟩ => ⟨m', hm, S5, F5, (e.trans e2).trans e5, rs5, a5, p⟩, fun v H5 x F5 e5 => cv.rt v H5 x F5 ((e.trans e2).trans e5),
      fun σ5 H5 S5 F5 e5 => cv.nx σ5 H5 S5 F5 ((e.trans e2).trans e5), fun σ5 H5 S5 F5 e5 rs5 a5 ⟨m', hm, p⟩ => ⟨m', hm, S5, F5, (e.trans e2).trans e5, rs5, a5, p⟩⟩

/-! ### what is walked -/
theorem it_list (h : TJ C te S F fun x F1 => ∃ ds, x = .d (.list ds) ∧ PL (ds.map .d) F1) : IT C (iList K te) S F PL := fun σ H rs as R q =>
  h σ H rs as _ fun v H1 x F1 e1 a1 r1 ⟨ds, ex, p⟩ => by
    subst ex
    cases r1 with
    | lst hl hd =>
      rename_i a xs
      refine ⟨a, rfl, ⟨xs, sql_sub hid_sub hl⟩, ?_⟩
      have hlen : xs.length = (ds.map SV.d).length := by rw [List.length_map]; exact dps_len hd
      refine q (Itl K a) H1 F1 (ds.map .d) (fun H2 => SqL K H2 a xs) (YAt xs) e1 a1 (hlen ▸ walk_list) (fun F2 H2 e a2 => sql_sub hid_sub (sql_sub e hl)) (fun i H2 v H3 F2 e a2 hi hy => ?_) p
      obtain ⟨e3, ev⟩ := hy
      subst e3
      obtain ⟨d, ed, rd⟩ := dps_getV hd ev
      exact ⟨Sub.refl _, a2, .d d, by rw [List.getElem?_map, ed]; rfl, dp_sub e rd⟩
theorem it_tup (h : TJ C te S F fun x F1 => ∃ ds, x = .d (.tuple ds) ∧ PL (ds.map .d) F1) : IT C (iTup K te) S F PL := fun σ H rs as R q =>
  h σ H rs as _ fun v H1 x F1 e1 a1 r1 ⟨ds, ex, p⟩ => by
    subst ex
    cases r1 with
    | tup hl hd =>
      rename_i a xs
      refine ⟨a, rfl, ⟨xs, sqt_sub hid_sub hl⟩, ?_⟩
      have hlen : xs.length = (ds.map SV.d).length := by rw [List.length_map]; exact dps_len hd
      refine q (Itt K a) H1 F1 (ds.map .d) (fun H2 => SqT K H2 a xs) (YAt xs) e1 a1 (hlen ▸ walk_tup) (fun F2 H2 e a2 => sqt_sub hid_sub (sqt_sub e hl)) (fun i H2 v H3 F2 e a2 hi hy => ?_) p
      obtain ⟨e3, ev⟩ := hy
      subst e3
      obtain ⟨d, ed, rd⟩ := dps_getV hd ev
      exact ⟨Sub.refl _, a2, .d d, by rw [List.getElem?_map, ed]; rfl, dp_sub e rd⟩
/-- lo, lo + 1, .. -/
def rg (lo : Int) (n : Nat) : List SV := (List.range n).map fun i => dI (lo + (i : Nat))
theorem rg_len {lo : Int} {n : Nat} : (rg lo n).length = n := by unfold rg; simp
theorem rg_get {lo : Int} {n i : Nat} {y : SV} (h : (rg lo n)[i]? = some y) : i < n ∧ y = dI (lo + i) := by
  unfold rg at h
  rw [List.getElem?_map] at h
  by_cases hi : i < n
  · rw [List.getElem?_range hi] at h
    exact ⟨hi, (Option.some.inj h).symm⟩
  · rw [List.getElem?_eq_none (by simpa using hi)] at h
    cases h
theorem it_rg {lo hi : Int} {H H1 : Hp} {F1 : FP} {R : It → Hp → Prop} (e1 : Ev C F H F1 H1) (a1 : As C F1 H1)
    (q : ∀ (J : It) H' F' (ys : List SV) (Gd : Hp → Prop) (Yr : Nat → Hp → V → Hp → Prop), Ev C F H F' H' → As C F' H' → Walk J ys.length Gd Yr → (∀ F2 H2, Ev C F' H' F2 H2 → As C F2 H2 → Gd H2) →
      (∀ i H2 v H3 F2, Ev C F' H' F2 H2 → As C F2 H2 → i < ys.length → Yr i H2 v H3 → Ev C F2 H2 F2 H3 ∧ As C F2 H3 ∧ ∃ y, ys[i]? = some y ∧ RV K (C.hid F2 H3) y v) → PL ys F' → R J H')
    (p : PL (rg lo (hi - lo).toNat) F1) : R (Itr lo (hi - lo).toNat) H1 := by
  refine q (Itr lo (hi - lo).toNat) H1 F1 (rg lo (hi - lo).toNat) (fun _ => True) (YFn fun i => .int (lo + i)) e1 a1 (by rw [rg_len]; exact walk_range) (fun _ _ _ _ => True.intro) (fun i H2 v H3 F2 e a2 hi hy => ?_) p
  obtain ⟨e3, ev⟩ := hy
  subst e3 ev
  rw [rg_len] at hi
  refine ⟨Sub.refl _, a2, dI (lo + i), ?_, rvI _⟩
  unfold rg
  rw [List.getElem?_map, List.getElem?_range hi]
  rfl
theorem it_rng1 (h : TL C tl S F fun xs F1 => ∃ j : Int, xs = [dI j] ∧ (-(2 ^ 62) ≤ j ∧ j < 2 ^ 62) ∧ PL (rg 0 j.toNat) F1) : IT C (iRng1 tl) S F PL := fun σ H rs as R q =>
  h σ H rs as _ fun vs H1 xs F1 e1 a1 r1 ⟨j, ex, ⟨b1, b2⟩, p⟩ => by
    subst ex
    cases r1 with
    | cons r t =>
      cases t
      refine ⟨j, by rw [r.int], b1, b2, ?_⟩
      have := it_rg (lo := 0) (hi := j) e1 a1 q (by rw [Int.sub_zero]; exact p)
      rw [Int.sub_zero] at this
      exact this
theorem it_rng2 (h : TL C tl S F fun xs F1 => ∃ i j : Int, xs = [dI i, dI j] ∧ (-(2 ^ 62) ≤ i ∧ i < 2 ^ 62 ∧ -(2 ^ 62) ≤ j ∧ j < 2 ^ 62) ∧ PL (rg i (j - i).toNat) F1) : IT C (iRng2 tl) S F PL := fun σ H rs as R q =>
  h σ H rs as _ fun vs H1 xs F1 e1 a1 r1 ⟨i, j, ex, b, p⟩ => by
    subst ex
    cases r1 with
    | cons r t => cases t with
      | cons r' t =>
        cases t
        exact ⟨i, j, by rw [r.int, r'.int], b, it_rg e1 a1 q p⟩
theorem it_revA (h : TJ C te S F fun x F1 => ∃ ds, (x = .d (.tuple ds) ∨ x = .d (.list ds)) ∧ PL (ds.reverse.map .d) F1) : IT C (iRevA K te) S F PL := fun σ H rs as R q =>
  h σ H rs as _ fun v H1 x F1 e1 a1 r1 ⟨ds, ex, p⟩ => by
    have key : ∀ (xs : List V) (i : Nat) (v : V) (H2 : Hp) (F2 : FP), DpAll K (C.hid F1 H1) xs ds → Ev C F1 H1 F2 H2 → i < xs.length → xs[xs.length - 1 - i]? = some v → ∃ y, (ds.reverse.map SV.d)[i]? = some y ∧ RV K (C.hid F2 H2) y v := by
      intro xs i v H2 F2 hd e hi hv
      obtain ⟨d, ed, rd⟩ := dps_getV hd hv
      have hl := dps_len hd
      refine ⟨.d d, ?_, dp_sub e rd⟩
      rw [List.getElem?_map, List.getElem?_reverse (by omega), show ds.length - 1 - i = xs.length - 1 - i by omega, ed]
      rfl
    rcases ex with ex | ex
    · subst ex
      cases r1 with
      | tup hl hd =>
        rename_i a xs
        have hlen : xs.length = (ds.reverse.map SV.d).length := by rw [List.length_map, List.length_reverse]; exact dps_len hd
        refine ⟨a, xs, rfl, .inr ⟨sqt_sub hid_sub hl, ?_⟩⟩
        refine q (ItvT K a xs.length) H1 F1 (ds.reverse.map .d) (fun H2 => SqT K H2 a xs) (fun i H x H' => H' = H ∧ xs[xs.length - 1 - i]? = some x) e1 a1 ?_ (fun F2 H2 e a2 => sqt_sub hid_sub (sqt_sub e hl)) (fun i H2 v H3 F2 e a2 hi hy => ?_) p
        · rw [← hlen]
          exact ⟨fun i _ hi q => ⟨hi, xs, xs[xs.length - 1 - i]'(by omega), q, by simp [show xs.length - 1 - i < xs.length by omega]⟩, fun _ _ => Nat.le_refl _, fun _ _ _ _ _ q y => ⟨y.1, y.2 xs q⟩⟩
        · obtain ⟨e3, ev⟩ := hy
          subst e3
          obtain ⟨y, h1, h2⟩ := key xs i v _ F2 hd e (by omega) ev
          exact ⟨Sub.refl _, a2, y, h1, h2⟩
    · subst ex
      cases r1 with
      | lst hl hd =>
        rename_i a xs
        have hlen : xs.length = (ds.reverse.map SV.d).length := by rw [List.length_map, List.length_reverse]; exact dps_len hd
        refine ⟨a, xs, rfl, .inl ⟨sql_sub hid_sub hl, ?_⟩⟩
        refine q (Itv K a xs.length) H1 F1 (ds.reverse.map .d) (fun H2 => SqL K H2 a xs) (fun i H x H' => H' = H ∧ xs[xs.length - 1 - i]? = some x) e1 a1 (by rw [← hlen]; exact walk_rev) (fun F2 H2 e a2 => sql_sub hid_sub (sql_sub e hl)) (fun i H2 v H3 F2 e a2 hi hy => ?_) p
        obtain ⟨e3, ev⟩ := hy
        subst e3
        obtain ⟨y, h1, h2⟩ := key xs i v _ F2 hd e (by omega) ev
        exact ⟨Sub.refl _, a2, y, h1, h2⟩

/-! ### operations on ints -/
theorem ro_I0 {g : Int → Int → V} {f : Int → Int → PyData} (hf : ∀ (H : Hp) i j, Dp K H (g i j) (f i j)) {i j : Int} (k : P (.d (f i j)) F) : RO C (rI0 g) (dI i) (dI j) F P := fun H v w as rv rw Q q =>
  ⟨i, j, rv.int, rw.int, q _ H (.d (f i j)) F (Sub.refl _) as (hf _ i j) k⟩
theorem ro_I {Cd : Int → Int → Prop} {g : Int → Int → V} {f : Int → Int → PyData} (hf : ∀ (H : Hp) i j, Dp K H (g i j) (f i j)) {i j : Int} (hc : Cd i j) (k : P (.d (f i j)) F) : RO C (rI Cd g) (dI i) (dI j) F P := fun H v w as rv rw Q q =>
  ⟨i, j, rv.int, rw.int, hc, q _ H (.d (f i j)) F (Sub.refl _) as (hf _ i j) k⟩
theorem ro_add {i j : Int} (k : P (dI (i + j)) F) : RO C (rI0 fun i j => .int (i + j)) (dI i) (dI j) F P := ro_I0 (f := fun i j => .int (i + j)) (fun _ _ _ => .int _) k
theorem ro_sub {i j : Int} (k : P (dI (i - j)) F) : RO C (rI0 fun i j => .int (i - j)) (dI i) (dI j) F P := ro_I0 (f := fun i j => .int (i - j)) (fun _ _ _ => .int _) k
theorem ro_mul {Cd : Int → Int → Prop} {i j : Int} (hc : Cd i j) (k : P (dI (i * j)) F) : RO C (rI Cd fun i j => .int (i * j)) (dI i) (dI j) F P := ro_I (f := fun i j => .int (i * j)) (fun _ _ _ => .int _) hc k
theorem ro_div {Cd : Int → Int → Prop} {i j : Int} (hc : Cd i j) (k : P (dI (i / j)) F) : RO C (rI Cd fun i j => .int (i / j)) (dI i) (dI j) F P := ro_I (f := fun i j => .int (i / j)) (fun _ _ _ => .int _) hc k
theorem ro_mod {Cd : Int → Int → Prop} {i j : Int} (hc : Cd i j) (k : P (dI (i % j)) F) : RO C (rI Cd fun i j => .int (i % j)) (dI i) (dI j) F P := ro_I (f := fun i j => .int (i % j)) (fun _ _ _ => .int _) hc k
theorem ro_pow {Cd : Int → Int → Prop} {i j : Int} (hc : Cd i j) (k : P (dI (i ^ j.toNat)) F) : RO C (rI Cd fun i j => .int (i ^ j.toNat)) (dI i) (dI j) F P := ro_I (f := fun i j => .int (i ^ j.toNat)) (fun _ _ _ => .int _) hc k
theorem ro_lt {i j : Int} (k : P (dB (decide (i < j))) F) : RO C (rI0 fun i j => .bl (decide (i < j))) (dI i) (dI j) F P := ro_I0 (f := fun i j => .bool (decide (i < j))) (fun _ _ _ => .bl _) k
theorem ro_le {i j : Int} (k : P (dB (decide (i ≤ j))) F) : RO C (rI0 fun i j => .bl (decide (i ≤ j))) (dI i) (dI j) F P := ro_I0 (f := fun i j => .bool (decide (i ≤ j))) (fun _ _ _ => .bl _) k
theorem ro_gt {i j : Int} (k : P (dB (decide (j < i))) F) : RO C (rI0 fun i j => .bl (decide (j < i))) (dI i) (dI j) F P := ro_I0 (f := fun i j => .bool (decide (j < i))) (fun _ _ _ => .bl _) k
theorem ro_ge {i j : Int} (k : P (dB (decide (j ≤ i))) F) : RO C (rI0 fun i j => .bl (decide (j ≤ i))) (dI i) (dI j) F P := ro_I0 (f := fun i j => .bool (decide (j ≤ i))) (fun _ _ _ => .bl _) k
theorem ru_neg {i : Int} (k : P (dI (-i)) F) : RU C (rU fun i => .int (-i)) (dI i) F P := fun H v as rv Q q => ⟨i, rv.int, q _ H (dI (-i)) F (Sub.refl _) as (rvI _) k⟩

/-! ### == and != of data -/
theorem ro_eqD {d e : PyData} (hd : SeqAt.shaped d = true) (he : SeqAt.shaped e = true) (k : P (dB (PyData.eqv d e)) F) : RO C (rEqD K) (.d d) (.d e) F P := fun H v w as rv rw Q q =>
  ⟨d, e, dp_sub hid_sub rv, dp_sub hid_sub rw, hd, he, q _ H (dB _) F (Sub.refl _) as (rvB _) k⟩
theorem ro_neD {d e : PyData} (hd : SeqAt.shaped d = true) (he : SeqAt.shaped e = true) (k : P (dB (!PyData.eqv d e)) F) : RO C (rNeD K) (.d d) (.d e) F P := fun H v w as rv rw Q q =>
  ⟨d, e, dp_sub hid_sub rv, dp_sub hid_sub rw, hd, he, q _ H (dB _) F (Sub.refl _) as (rvB _) k⟩
theorem shaped_int (i : Int) : SeqAt.shaped (.int i) = true := by rfl
theorem ro_eqI {i j : Int} (k : P (dB (i == j)) F) : RO C (rEqD K) (dI i) (dI j) F P := ro_eqD rfl rfl k
theorem ro_neI {i j : Int} (k : P (dB (i != j)) F) : RO C (rNeD K) (dI i) (dI j) F P := ro_neD rfl rfl k

/-! ### items -/
theorem ro_ixT {ds : List PyData} {i : Int} {d : PyData} (h : atI ds i = some d) (k : P (.d d) F) : RO C (rIx K) (.d (.tuple ds)) (dI i) F P := fun H v w as rv rw Q q => by
  cases rv with
  | tup hl hd =>
    rename_i a xs
    have e := rw.int
    subst e
    obtain ⟨j, h1, h2⟩ := Option.bind_eq_some_iff.mp h
    obtain ⟨z, ez, rz⟩ := dps_get hd h2
    have hl2 := dps_len hd
    refine .inr (.inl ⟨a, xs, i, z, rfl, rfl, sqt_sub hid_sub hl, ?_, q z H (.d d) F (Sub.refl _) as rz k⟩)
    unfold atI
    rw [hl2, h1]
    exact ez
theorem ro_ixL {ds : List PyData} {i : Int} {d : PyData} (h : atI ds i = some d) (k : P (.d d) F) : RO C (rIx K) (.d (.list ds)) (dI i) F P := fun H v w as rv rw Q q => by
  cases rv with
  | lst hl hd =>
    rename_i a xs
    have e := rw.int
    subst e
    obtain ⟨j, h1, h2⟩ := Option.bind_eq_some_iff.mp h
    obtain ⟨z, ez, rz⟩ := dps_get hd h2
    have hl2 := dps_len hd
    refine .inl ⟨a, xs, i, z, rfl, rfl, sql_sub hid_sub hl, ?_, q z H (.d d) F (Sub.refl _) as rz k⟩
    unfold atI
    rw [hl2, h1]
    exact ez
theorem rvs_len {H : Hp} {xs : List SV} {vs : List V} (h : RVs K H xs vs) : xs.length = vs.length := Paired.length h
theorem rvs_get {H : Hp} : ∀ {xs : List SV} {vs : List V} {i : Nat} {x : SV}, RVs K H xs vs → xs[i]? = some x → ∃ v, vs[i]? = some v ∧ RV K H x v
  | _, _, _, _, .nil, h => by simp at h
  | _, _, 0, _, .cons h a, e => by simp at e; subst e; exact ⟨_, rfl, h⟩
  | _, _, i + 1, _, .cons h a, e => by
    obtain ⟨v, q, r⟩ := rvs_get (i := i) a (by simpa using e)
    exact ⟨v, by simpa using q, r⟩
/-- an item of an owned list -/
theorem ro_ixM {a : Addr} {xs : List SV} {i : Int} {x : SV} (hm : (a, .lst xs) ∈ F) (h : atI xs i = some x) (k : P x F) : RO C (rIx K) (.m a) (dI i) F P := fun H v w as rv rw Q q => by
  cases (show v = .ref a from rv)
  have e := rw.int
  subst e
  obtain ⟨vs, h1, h2⟩ := as.mem _ hm
  obtain ⟨j, hj, hx⟩ := Option.bind_eq_some_iff.mp h
  obtain ⟨z, ez, rz⟩ := rvs_get h2 hx
  refine .inl ⟨a, vs, i, z, rfl, rfl, SqL.of h1, ?_, q z H x F (Sub.refl _) as rz k⟩
  unfold atI
  rw [← rvs_len h2, hj]
  exact ez
theorem atI_nat' {α : Type} {xs : List α} {i : Int} {v : α} (h0 : 0 ≤ i) (h : xs[i.toNat]? = some v) : atI xs i = some v := by
  have : i = (i.toNat : Int) := by omega
  rw [this]
  exact atI_nat h

/-! ### displays -/
/-- frozen: the data that stands for a value, and the footprint without the objects that froze -/
inductive Frz : FP → SV → FP → PyData → Prop
  | d {F : FP} (x : PyData) : Frz F (.d x) F x
  | m {F : FP} {a : Addr} {ds : List PyData} : (a, MO.lst (ds.map .d)) ∈ F → Frz F (.m a) (F.filter fun q => decide (q.1 ≠ a)) (.list ds)
inductive FrzAll : FP → List SV → FP → List PyData → Prop
  | nil {F : FP} : FrzAll F [] F []
  | cons {F F1 F2 : FP} {x : SV} {d : PyData} {xs : List SV} {ds : List PyData} : Frz F x F1 d → FrzAll F1 xs F2 ds → FrzAll F (x :: xs) F2 (d :: ds)
theorem filter_key {F : FP} {a b : Addr} : b ∈ (F.filter fun q => decide (q.1 ≠ a)).map (·.1) ↔ b ∈ F.map (·.1) ∧ b ≠ a := by
  constructor
  · intro h
    obtain ⟨q, hq, rfl⟩ := List.mem_map.mp h
    obtain ⟨h1, h2⟩ := List.mem_filter.mp hq
    exact ⟨List.mem_map.mpr ⟨q, h1, rfl⟩, of_decide_eq_true h2⟩
  · intro ⟨h, hn⟩
    obtain ⟨q, hq, rfl⟩ := List.mem_map.mp h
    exact List.mem_map.mpr ⟨q, List.mem_filter.mpr ⟨hq, decide_eq_true hn⟩, rfl⟩
theorem As.drop {H : Hp} (a : As C F H) (b : Addr) : Ev C F H (F.filter fun q => decide (q.1 ≠ b)) H ∧ As C (F.filter fun q => decide (q.1 ≠ b)) H := by
  have ev : Ev C F H (F.filter fun q => decide (q.1 ≠ b)) H := fun p o h => by
    obtain ⟨⟨h1, h2, h3⟩, h4⟩ := hid_some.mp h
    exact hid_some.mpr ⟨⟨h1, h2, fun z => h3 (filter_key.mp z).1⟩, h4⟩
  refine ⟨ev, a.ex, a.tab, ?_, fun p h => a.own p (filter_key.mp h).1, fun q hq => (a.mem q (List.mem_filter.mp hq).1).sub ev rfl⟩
  exact (a.nd.sublist (List.Sublist.map _ List.filter_sublist))
theorem As.frz {H : Hp} {F1 : FP} {d : PyData} {v : V} (a : As C F H) (z : Frz F x F1 d) (r : RV K (C.hid F H) x v) (nU : ∀ a, x = .m a → ¬ C.U a) : Ev C F H F1 H ∧ As C F1 H ∧ RV K (C.hid F1 H) (.d d) v := by
  cases z with
  | d x => exact ⟨Sub.refl _, a, r⟩
  | m hm =>
    rename_i p ds
    obtain ⟨ev, a1⟩ := a.drop p
    cases (show v = .ref p from r)
    obtain ⟨vs, h1, h2⟩ := a.mem _ hm
    refine ⟨ev, a1, .lst (.inl (.inl ?_)) (rvs_d (h2.sub ev))⟩
    refine hid_some.mpr ⟨⟨nU p rfl, (a.own p (List.mem_map.mpr ⟨_, hm, rfl⟩)).1, fun z => (filter_key.mp z).2 rfl⟩, h1⟩
theorem As.notU {H : Hp} (a : As C F H) {p : Addr} (h : p ∈ F.map (·.1)) : ¬ C.U p := fun z => by
  obtain ⟨h1, _, h3⟩ := C.hU p z
  rcases (a.own p h).2 with q | q
  · exact h1 q
  · exact h3 q
theorem As.frz' {H : Hp} {F1 : FP} {d : PyData} {v : V} (a : As C F H) (z : Frz F x F1 d) (r : RV K (C.hid F H) x v) : Ev C F H F1 H ∧ As C F1 H ∧ RV K (C.hid F1 H) (.d d) v :=
  a.frz z r fun p e => by
    subst e
    cases z with
    | m hm => exact a.notU (List.mem_map.mpr ⟨_, hm, rfl⟩)
theorem As.frzAll {H : Hp} {xs : List SV} {F F2 : FP} {ds : List PyData} (z : FrzAll F xs F2 ds) : ∀ {vs : List V}, As C F H → RVs K (C.hid F H) xs vs → Ev C F H F2 H ∧ As C F2 H ∧ DpAll K (C.hid F2 H) vs ds := by
  induction z with
  | nil =>
    intro vs a r
    cases r
    exact ⟨Sub.refl _, a, .nil⟩
  | cons z1 z2 ih =>
    intro vs a r
    cases r with
    | cons r1 r2 =>
      obtain ⟨e1, a1, q1⟩ := a.frz' z1 r1
      obtain ⟨e2, a2, q2⟩ := ih a1 (RVs.sub e1 r2)
      exact ⟨e1.trans e2, a2, .cons (dp_sub e2 q1) q2⟩
theorem As.newT {H : Hp} {p : Addr} {vs : List V} {ds : List PyData} (a : As C F H) (hp : H p = none) (hd : DpAll K (C.hid F H) vs ds) :
    Ev C F H F (upd H p (.tup vs)) ∧ As C F (upd H p (.tup vs)) ∧ RV K (C.hid F (upd H p (.tup vs))) (.d (.tuple ds)) (.ref p) := by
  obtain ⟨ev, a1⟩ := a.laid (o := .tup vs) hp
  exact ⟨ev, a1, .tup (.inl (.inl (a.seen hp))) (dps_sub ev hd)⟩
theorem As.newL {H : Hp} {p : Addr} {vs : List V} {ds : List PyData} (a : As C F H) (hp : H p = none) (hd : DpAll K (C.hid F H) vs ds) :
    Ev C F H F (upd H p (.lst vs)) ∧ As C F (upd H p (.lst vs)) ∧ RV K (C.hid F (upd H p (.lst vs))) (.d (.list ds)) (.ref p) := by
  obtain ⟨ev, a1⟩ := a.laid (o := .lst vs) hp
  exact ⟨ev, a1, .lst (.inl (.inl (a.seen hp))) (dps_sub ev hd)⟩
theorem tj_tup (h : TL C tl S F fun xs F1 => ∃ ds F2, FrzAll F1 xs F2 ds ∧ xs.length ≤ 1000 ∧ P (.d (.tuple ds)) F2) : TJ C (tTup tl) S F P := fun σ H rs as Q q =>
  h σ H rs as _ fun vs H1 xs F1 e1 a1 r1 ⟨ds, F2, z, hz, p⟩ => by
    obtain ⟨e2, a2, hd⟩ := As.frzAll z a1 r1
    refine ⟨Nat.le_trans (by rw [← rvs_len r1]; exact hz) (by decide), fun l hl => ?_⟩
    obtain ⟨e3, a3, r3⟩ := a2.newT hl hd
    exact q _ _ _ F2 ((e1.trans e2).trans e3) a3 r3 p
/-- a new list, owned -/
theorem tj_lst (h : TL C tl S F fun xs F1 => xs.length ≤ 1000 ∧ ∀ l, l ∉ F1.map (·.1) → P (.m l) ((l, .lst xs) :: F1)) : TJ C (tLst tl) S F P := fun σ H rs as Q q =>
  h σ H rs as _ fun vs H1 xs F1 e1 a1 r1 ⟨hz, p⟩ => by
    refine ⟨Nat.le_trans (by rw [← rvs_len r1]; exact hz) (by decide), fun l hl => ?_⟩
    obtain ⟨e3, a3⟩ := a1.new (o := .lst vs) (mo := .lst xs) hl fun Hh sb => ⟨vs, upd_same, r1.sub sb⟩
    exact q _ _ (.m l) _ (e1.trans e3) a3 rfl (p l fun z => a1.there z hl)
/-- a new list, frozen -/
theorem tj_lstD (h : TL C tl S F fun xs F1 => ∃ ds F2, FrzAll F1 xs F2 ds ∧ xs.length ≤ 1000 ∧ P (.d (.list ds)) F2) : TJ C (tLst tl) S F P := fun σ H rs as Q q =>
  h σ H rs as _ fun vs H1 xs F1 e1 a1 r1 ⟨ds, F2, z, hz, p⟩ => by
    obtain ⟨e2, a2, hd⟩ := As.frzAll z a1 r1
    refine ⟨Nat.le_trans (by rw [← rvs_len r1]; exact hz) (by decide), fun l hl => ?_⟩
    obtain ⟨e3, a3, r3⟩ := a2.newL hl hd
    exact q _ _ _ F2 ((e1.trans e2).trans e3) a3 r3 p
end
end G

namespace G
open PySem L2 RT
section
variable {K : PySem.W.Frag} {T : List Addr} {C : CC K T} {S : SS} {F : FP} {P : SV → FP → Prop} {PB : Bool → FP → Prop} {PL : List SV → FP → Prop} {te ta tb : TE} {tt tu : TT} {tl : TA} {x y z : SV} {r : R2}
/-! ### calls of built-ins, on values -/
theorem rvs1 {H : Hp} {x : SV} {vs : List V} (h : RVs K H [x] vs) : ∃ v, vs = [v] ∧ RV K H x v := by
  cases h with
  | cons a t => cases t; exact ⟨_, rfl, a⟩
theorem rvs2 {H : Hp} {x y : SV} {vs : List V} (h : RVs K H [x, y] vs) : ∃ v w, vs = [v, w] ∧ RV K H x v ∧ RV K H y w := by
  cases h with
  | cons a t => cases t with
    | cons b t => cases t; exact ⟨_, _, rfl, a, b⟩
theorem rc_abs {i : Int} (k : P (dI (if i < 0 then -i else i)) F) : RC C (fun xs H Q => ∃ i, xs = [V.int i] ∧ Q (.int (if i < 0 then -i else i)) H) [dI i] F P := fun H vs as r Q q => by
  obtain ⟨v, rfl, rv⟩ := rvs1 r
  exact ⟨i, by rw [rv.int], q _ H (dI _) F (Sub.refl _) as (rvI _) k⟩
theorem rc_max2 {i j : Int} (k : P (dI (if j > i then j else i)) F) : RC C (fun xs H Q => ∃ i j, xs = [V.int i, V.int j] ∧ Q (.int (if j > i then j else i)) H) [dI i, dI j] F P := fun H vs as r Q q => by
  obtain ⟨v, w, rfl, rv, rw'⟩ := rvs2 r
  exact ⟨i, j, by rw [rv.int, rw'.int], q _ H (dI _) F (Sub.refl _) as (rvI _) k⟩
theorem rc_min2 {i j : Int} (k : P (dI (if j < i then j else i)) F) : RC C (fun xs H Q => ∃ i j, xs = [V.int i, V.int j] ∧ Q (.int (if j < i then j else i)) H) [dI i, dI j] F P := fun H vs as r Q q => by
  obtain ⟨v, w, rfl, rv, rw'⟩ := rvs2 r
  exact ⟨i, j, by rw [rv.int, rw'.int], q _ H (dI _) F (Sub.refl _) as (rvI _) k⟩
theorem rc_int {i : Int} (k : P (dI i) F) : RC C (fun xs H Q => (∃ i, xs = [V.int i] ∧ Q (.int i) H) ∨ ∃ k, xs = [V.bl k] ∧ Q (.int (if k then 1 else 0)) H) [dI i] F P := fun H vs as r Q q => by
  obtain ⟨v, rfl, rv⟩ := rvs1 r
  exact .inl ⟨i, by rw [rv.int], q _ H (dI _) F (Sub.refl _) as (rvI _) k⟩
theorem rc_gcd {i j : Int} (k : P (dI ((Nat.gcd i.natAbs j.natAbs : Nat) : Int)) F) : RC C rGcd [dI i, dI j] F P := fun H vs as r Q q => by
  obtain ⟨v, w, rfl, rv, rw'⟩ := rvs2 r
  exact ⟨i, j, by rw [rv.int, rw'.int], q _ H (dI _) F (Sub.refl _) as (rvI _) k⟩
/-- len of data, of an owned list -/
def rLen (K : PySem.W.Frag) : List V → Hp → VK → Prop := fun xs H Q => ∃ x n, xs = [x] ∧ LenV K x H n ∧ Q (.int (n : Nat)) H
theorem rc_lenT {ds : List PyData} (k : P (dI (ds.length : Int)) F) : RC C (fun xs H Q => ∃ p ys, xs = [V.ref p] ∧ (SqL K H p ys ∨ SqT K H p ys) ∧ Q (.int ys.length) H) [.d (.tuple ds)] F P := fun H vs as r Q q => by
  obtain ⟨v, rfl, rv⟩ := rvs1 r
  cases rv with
  | tup hl hd =>
    refine ⟨_, _, rfl, .inr (sqt_sub hid_sub hl), ?_⟩
    rw [dps_len hd]
    exact q _ H (dI _) F (Sub.refl _) as (rvI _) k
theorem rc_lenL {ds : List PyData} (k : P (dI (ds.length : Int)) F) : RC C (fun xs H Q => ∃ p ys, xs = [V.ref p] ∧ (SqL K H p ys ∨ SqT K H p ys) ∧ Q (.int ys.length) H) [.d (.list ds)] F P := fun H vs as r Q q => by
  obtain ⟨v, rfl, rv⟩ := rvs1 r
  cases rv with
  | lst hl hd =>
    refine ⟨_, _, rfl, .inl (sql_sub hid_sub hl), ?_⟩
    rw [dps_len hd]
    exact q _ H (dI _) F (Sub.refl _) as (rvI _) k
theorem rc_lenM {a : Addr} {xs : List SV} (hm : (a, .lst xs) ∈ F) (k : P (dI (xs.length : Int)) F) : RC C (fun xs H Q => ∃ p ys, xs = [V.ref p] ∧ (SqL K H p ys ∨ SqT K H p ys) ∧ Q (.int ys.length) H) [.m a] F P := fun H vs as r Q q => by
  obtain ⟨v, rfl, rv⟩ := rvs1 r
  cases (show v = .ref a from rv)
  obtain ⟨us, h1, h2⟩ := as.mem _ hm
  refine ⟨_, _, rfl, .inl (SqL.of h1), ?_⟩
  rw [← rvs_len h2]
  exact q _ H (dI _) F (Sub.refl _) as (rvI _) k
/-- list(x): a new list, owned or frozen -/
abbrev rListOf (K : PySem.W.Frag) : List V → Hp → VK → Prop := fun xs H Q => ∃ p ys, xs = [V.ref p] ∧ (SqL K H p ys ∨ SqT K H p ys) ∧ ∀ l, H l = none → Q (.ref l) (upd H l (.lst ys))
theorem rc_listD {ds : List PyData} (hx : x = .d (.list ds) ∨ x = .d (.tuple ds)) (k : P (.d (.list ds)) F) : RC C (rListOf K) [x] F P := fun H vs as r Q q => by
  obtain ⟨v, rfl, rv⟩ := rvs1 r
  have key : ∃ p ys, v = .ref p ∧ (SqL K H p ys ∨ SqT K H p ys) ∧ DpAll K (C.hid F H) ys ds := by
    rcases hx with e | e
    · subst e
      cases rv with
      | lst hl hd => exact ⟨_, _, rfl, .inl (sql_sub hid_sub hl), hd⟩
    · subst e
      cases rv with
      | tup hl hd => exact ⟨_, _, rfl, .inr (sqt_sub hid_sub hl), hd⟩
  obtain ⟨p, ys, rfl, h1, h2⟩ := key
  refine ⟨p, ys, rfl, h1, fun l hl => ?_⟩
  obtain ⟨e3, a3, r3⟩ := as.newL hl h2
  exact q _ _ _ F e3 a3 r3 k
theorem rc_listO {ds : List PyData} (hx : x = .d (.list ds) ∨ x = .d (.tuple ds)) (k : ∀ l, l ∉ F.map (·.1) → P (.m l) ((l, .lst (ds.map .d)) :: F)) : RC C (rListOf K) [x] F P := fun H vs as r Q q => by
  obtain ⟨v, rfl, rv⟩ := rvs1 r
  have key : ∃ p ys, v = .ref p ∧ (SqL K H p ys ∨ SqT K H p ys) ∧ DpAll K (C.hid F H) ys ds := by
    rcases hx with e | e
    · subst e
      cases rv with
      | lst hl hd => exact ⟨_, _, rfl, .inl (sql_sub hid_sub hl), hd⟩
    · subst e
      cases rv with
      | tup hl hd => exact ⟨_, _, rfl, .inr (sqt_sub hid_sub hl), hd⟩
  obtain ⟨p, ys, rfl, h1, h2⟩ := key
  refine ⟨p, ys, rfl, h1, fun l hl => ?_⟩
  obtain ⟨e3, a3⟩ := as.new (o := .lst ys) (mo := .lst (ds.map .d)) hl fun Hh sb => ⟨ys, upd_same, (d_rvs h2).sub sb⟩
  exact q _ _ (.m l) _ e3 a3 rfl (k l fun z => as.there z hl)
/-- tuple(x) -/
abbrev rTupleOf (K : PySem.W.Frag) : List V → Hp → VK → Prop := fun xs H Q => ∃ p ys, xs = [V.ref p] ∧ ((SqL K H p ys ∧ ∀ l, H l = none → Q (.ref l) (upd H l (.tup ys))) ∨ (SqT K H p ys ∧ Q (.ref p) H))
theorem rc_tupleD {ds : List PyData} (hx : x = .d (.list ds) ∨ x = .d (.tuple ds)) (k : P (.d (.tuple ds)) F) : RC C (rTupleOf K) [x] F P := fun H vs as r Q q => by
  obtain ⟨v, rfl, rv⟩ := rvs1 r
  rcases hx with e | e
  · subst e
    cases rv with
    | lst hl hd =>
      refine ⟨_, _, rfl, .inl ⟨sql_sub hid_sub hl, fun l hl => ?_⟩⟩
      obtain ⟨e3, a3, r3⟩ := as.newT hl hd
      exact q _ _ _ F e3 a3 r3 k
  · subst e
    have rv0 := rv
    cases rv with
    | tup hl hd => exact ⟨_, _, rfl, .inr ⟨sqt_sub hid_sub hl, q _ H _ F (Sub.refl _) as rv0 k⟩⟩
/-- tuple(an owned list of data): the list is left as it is -/
theorem rc_tupleM {a : Addr} {ds : List PyData} (hm : (a, .lst (ds.map .d)) ∈ F) (k : P (.d (.tuple ds)) F) : RC C (rTupleOf K) [.m a] F P := fun H vs as r Q q => by
  obtain ⟨v, rfl, rv⟩ := rvs1 r
  cases (show v = .ref a from rv)
  obtain ⟨us, h1, h2⟩ := as.mem _ hm
  refine ⟨_, _, rfl, .inl ⟨SqL.of h1, fun l hl => ?_⟩⟩
  obtain ⟨e3, a3, r3⟩ := as.newT hl (rvs_d h2)
  exact q _ _ _ F e3 a3 r3 k
theorem rc_listM {a : Addr} {ds : List PyData} (hm : (a, .lst (ds.map .d)) ∈ F) (k : P (.d (.list ds)) F) : RC C (rListOf K) [.m a] F P := fun H vs as r Q q => by
  obtain ⟨v, rfl, rv⟩ := rvs1 r
  cases (show v = .ref a from rv)
  obtain ⟨us, h1, h2⟩ := as.mem _ hm
  refine ⟨_, _, rfl, .inl (SqL.of h1), fun l hl => ?_⟩
  obtain ⟨e3, a3, r3⟩ := as.newL hl (rvs_d h2)
  exact q _ _ _ F e3 a3 r3 k
/-- the list of ints at a value -/
def IntsL (F : FP) (x : SV) (ns : List Int) : Prop := x = .d (.list (ns.map .int)) ∨ ∃ a, x = .m a ∧ (a, MO.lst (ns.map dI)) ∈ F
theorem dI_map (ns : List Int) : ns.map dI = (ns.map PyData.int).map SV.d := by rw [List.map_map]; rfl
theorem IntsL.sq {H : Hp} {ns : List Int} {v : V} (as : As C F H) (h : IntsL F x ns) (r : RV K (C.hid F H) x v) : ∃ a, v = .ref a ∧ SqL K H a (ns.map V.int) := by
  rcases h with e | ⟨a, e, hm⟩
  · subst e
    cases r with
    | lst hl hd =>
      rw [dps_ints hd] at hl
      exact ⟨_, rfl, sql_sub hid_sub hl⟩
  · subst e
    cases (show v = .ref a from r)
    obtain ⟨us, h1, h2⟩ := as.mem _ hm
    rw [dI_map] at h2
    rw [dps_ints (rvs_d h2)] at h1
    exact ⟨a, rfl, SqL.of h1⟩
theorem rc_sum {ns : List Int} (h : IntsL F x ns) (k : P (dI ns.sum) F) : RC C (rSum K) [x] F P := fun H vs as r Q q => by
  obtain ⟨v, rfl, rv⟩ := rvs1 r
  obtain ⟨a, rfl, h1⟩ := h.sq as rv
  exact ⟨a, ns, rfl, h1, q _ H (dI _) F (Sub.refl _) as (rvI _) k⟩
theorem rc_max {ns : List Int} (h : IntsL F x ns) (hn : ns ≠ []) (k : ∀ m, m ∈ ns → (∀ y, y ∈ ns → y ≤ m) → P (dI m) F) : RC C (rMax K) [x] F P := fun H vs as r Q q => by
  obtain ⟨v, rfl, rv⟩ := rvs1 r
  obtain ⟨a, rfl, h1⟩ := h.sq as rv
  exact ⟨a, ns, rfl, h1, List.length_pos_iff.mpr hn, fun m h2 h3 => q _ H (dI _) F (Sub.refl _) as (rvI _) (k m h2 h3)⟩
theorem rc_min {ns : List Int} (h : IntsL F x ns) (hn : ns ≠ []) (k : ∀ m, m ∈ ns → (∀ y, y ∈ ns → m ≤ y) → P (dI m) F) : RC C (rMin K) [x] F P := fun H vs as r Q q => by
  obtain ⟨v, rfl, rv⟩ := rvs1 r
  obtain ⟨a, rfl, h1⟩ := h.sq as rv
  exact ⟨a, ns, rfl, h1, List.length_pos_iff.mpr hn, fun m h2 h3 => q _ H (dI _) F (Sub.refl _) as (rvI _) (k m h2 h3)⟩
/-- sorted(ints), frozen -/
theorem rc_sortedI {ns : List Int} (h : IntsL F x ns) (k : ∀ ns' : List Int, ns'.Perm ns → ns'.Pairwise (· ≤ ·) → P (.d (.list (ns'.map .int))) F) : RC C (rSortedI K) [x] F P := fun H vs as r Q q => by
  obtain ⟨v, rfl, rv⟩ := rvs1 r
  obtain ⟨a, rfl, h1⟩ := h.sq as rv
  refine ⟨a, ns, rfl, h1, fun ns' p h2 h3 hp => ?_⟩
  obtain ⟨e3, a3, r3⟩ := as.newL hp (ints_dps (K := K) (H := C.hid F H) ns')
  exact q _ _ _ F e3 a3 r3 (k ns' h2 h3)

/-! ### owned lists changed -/
variable {E : SE} {t u : TS}
/-- xs.append(e): e may be anything that is told -/
theorem tj_append (h : TJ C ta S F fun v F1 => ∃ a xs1, v = .m a ∧ (a, MO.lst xs1) ∈ F1 ∧ TJ C te S F1 fun y F2 => ∃ xs, (a, MO.lst xs) ∈ F2 ∧ xs.length < 16000000 ∧ P dN (setF F2 a (.lst (xs ++ [y])))) :
    TJ C (tBM K "list" rAppend ta (tCons te tNil)) S F P := fun σ H rs as Q q =>
  h σ H rs as _ fun v H1 x F1 e1 a1 r1 ⟨a, xs1, ex, hm1, h1⟩ => by
    subst ex
    cases (show v = .ref a from r1)
    obtain ⟨us1, g1, g2⟩ := a1.mem _ hm1
    refine ⟨.inl ⟨rfl, us1, SqL.of g1⟩, h1 σ H1 (rs.sub e1) a1 _ fun y H2 z F2 e2 a2 r2 ⟨xs, hm, hz, p⟩ => ?_⟩
    obtain ⟨us, g3, g4⟩ := a2.mem _ hm
    refine ⟨a, us, y, rfl, rfl, g3, Nat.lt_of_lt_of_le (by rw [← rvs_len g4]; exact hz) (by decide), ?_⟩
    obtain ⟨e3, a3⟩ := a2.put (o := .lst (us ++ [y])) (mo' := .lst (xs ++ [z])) hm ⟨us ++ [y], upd_same, by
      clear g3 hz p hm
      induction g4 with
      | nil => exact .cons r2 .nil
      | cons a b ih => exact .cons a ih⟩
    exact q _ _ dN _ ((e1.trans e2).trans e3) a3 rvN p
theorem rvs_set {H : Hp} {y : SV} {v : V} (r : RV K H y v) : ∀ {xs : List SV} {vs : List V} (j : Nat), RVs K H xs vs → RVs K H (xs.set j y) (vs.set j v)
  | _, _, _, .nil => .nil
  | _, _, 0, .cons _ t => .cons r t
  | _, _, j + 1, .cons a t => .cons a (rvs_set r j t)
/-- xs[i] = y -/
theorem tg_setL {to ti : TE} {PS : SS → FP → Prop} (h : TJ C to S F fun o F1 => TJ C ti S F1 fun i F2 => ∃ a xs k j, o = .m a ∧ i = dI k ∧ (a, MO.lst xs) ∈ F2 ∧ ixN xs.length k = some j ∧ PS S (setF F2 a (.lst (xs.set j y)))) : TGJ C (gSub to ti rSetL) y S F PS := fun σ H v rs as r Q q =>
  h σ H rs as _ fun ov H1 o F1 e1 a1 r1 h1 => h1 σ H1 (rs.sub e1) a1 _ fun iv H2 i F2 e2 a2 r2 ⟨a, xs, k, j, eo, ei, hm, hj, p⟩ => by
    subst eo ei
    cases (show ov = .ref a from r1)
    obtain ⟨us, g1, g2⟩ := a2.mem _ hm
    refine ⟨a, us, k, j, rfl, r2.int, g1, by rw [← rvs_len g2]; exact hj, ?_⟩
    obtain ⟨e3, a3⟩ := a2.put (o := .lst (us.set j v)) (mo' := .lst (xs.set j y)) hm ⟨us.set j v, upd_same, rvs_set (r.sub (e1.trans e2)) j g2⟩
    exact q _ _ S _ ((e1.trans e2).trans e3) (rs.sub ((e1.trans e2).trans e3)) a3 p
/-- a, b = a tuple (a list) of data -/
theorem tg_tup {n : Nat} {gs : TGs} {ds : List PyData} {PS : SS → FP → Prop} (hn : ds.length = n) (h : ∀ σ H vs, RS K (C.hid F H) S σ → As C F H → DpAll K (C.hid F H) vs ds → ∀ Q : L2.St → Hp → Prop, (∀ σ' H' S' F', Ev C F H F' H' → RS K (C.hid F' H') S' σ' → As C F' H' → PS S' F' → Q σ' H') → gs vs σ H Q) :
    TGJ C (gTup K n gs) (.d (.tuple ds)) S F PS := fun σ H v rs as r Q q => by
  cases r with
  | tup hl hd => exact ⟨_, _, rfl, sqt_sub hid_sub hl, (dps_len hd).trans hn, h σ H _ rs as hd Q q⟩
theorem tg_tup2 {i j : Nat} {d1 d2 : PyData} {PS : SS → FP → Prop} (h : PS ((S.set i (some (.d d1))).set j (some (.d d2))) F) : TGJ C (gTup K 2 (gCons (gName i) (gCons (gName j) gNil))) (.d (.tuple [d1, d2])) S F PS :=
  tg_tup rfl fun σ H vs rs as hd Q q => by
    cases hd with
    | cons h1 t => cases t with
      | cons h2 t =>
        cases t
        exact ⟨_, _, rfl, _, _, rfl, rfl, q _ H _ F (Sub.refl _) (RS.set (x := .d d2) h2 j (RS.set (x := .d d1) h1 i rs)) as h⟩
theorem tg_tup3 {i j k : Nat} {d1 d2 d3 : PyData} {PS : SS → FP → Prop} (h : PS (((S.set i (some (.d d1))).set j (some (.d d2))).set k (some (.d d3))) F) : TGJ C (gTup K 3 (gCons (gName i) (gCons (gName j) (gCons (gName k) gNil)))) (.d (.tuple [d1, d2, d3])) S F PS :=
  tg_tup rfl fun σ H vs rs as hd Q q => by
    cases hd with
    | cons h1 t => cases t with
      | cons h2 t => cases t with
        | cons h3 t =>
          cases t
          exact ⟨_, _, rfl, _, _, rfl, _, _, rfl, rfl, q _ H _ F (Sub.refl _) (RS.set (x := .d d3) h3 k (RS.set (x := .d d2) h2 j (RS.set (x := .d d1) h1 i rs))) as h⟩

/-! ### freezing at a statement -/
/-- an owned list of data is frozen: its names told as data -/
def frzS (a : Addr) (d : PyData) : SV → SV
  | .m b => if b = a then .d d else .m b
  | x => x
theorem st_freeze {a : Addr} {ds : List PyData} (hm : (a, MO.lst (ds.map .d)) ∈ F) (h : ST C t (S.map fun o => o.map (frzS a (.list ds))) (F.filter fun q => decide (q.1 ≠ a)) E) : ST C t S F E := fun σ H rs as D cv => by
  obtain ⟨e1, a1, r1⟩ := as.frz' (x := .m a) (F1 := F.filter fun q => decide (q.1 ≠ a)) (.m hm) (show RV K _ (.m a) (.ref a) from rfl)
  refine h σ H ?_ a1 D (cv.ev e1)
  have rs1 := rs.sub e1
  clear rs h
  induction rs1 with
  | nil => exact .nil
  | @cons s o S σ r t ih =>
    refine .cons (fun x e => ?_) ih
    cases s with
    | none => cases e
    | some s =>
      obtain ⟨v, ev, rv⟩ := r s rfl
      refine ⟨v, ev, ?_⟩
      cases e
      cases s with
      | m b =>
        show RV K _ (if b = a then .d (.list ds) else .m b) v
        split
        · rename_i hb
          subst hb
          cases (show v = .ref b from rv)
          exact r1
        · exact rv
      | d _ => exact rv
      | o _ _ => exact rv
      | v _ => exact rv
/-- forgetting names -/
theorem st_forget {S' : SS} (f : ∀ (i : Nat) (x : SV), S'[i]? = some (some x) → S[i]? = some (some x)) (l : S'.length = S.length) (h : ST C t S' F E) : ST C t S F E := fun σ H rs as D cv => h σ H (rs.forget f l) as D cv

/-! ### comprehensions -/
def wipeS (S : SS) : List Nat → SS
  | [] => S
  | v :: vs => (wipeS S vs).set v none
theorem rs_wipe {H : Hp} {σ : L2.St} (rs : RS K H S σ) : ∀ vs, RS K H (wipeS S vs) (wipe σ vs)
  | [] => rs
  | v :: vs => (rs_wipe rs vs).setN v
theorem wipe_get (σ : L2.St) (k : Nat) : ∀ vs : List Nat, (wipe σ vs)[k]? = if k ∈ vs then σ[k]?.map (fun _ => none) else σ[k]?
  | [] => by
    rw [if_neg (by simp)]
    rfl
  | v :: vs => by
    unfold wipe
    by_cases h : v = k
    · subst h
      rw [if_pos (by simp)]
      by_cases h2 : v < σ.length
      · rw [List.getElem?_set_self (by rw [wipe_length]; exact h2), List.getElem?_eq_getElem h2]
        rfl
      · rw [List.getElem?_eq_none (by rw [List.length_set, wipe_length]; omega), List.getElem?_eq_none (by omega)]
        rfl
    · rw [List.getElem?_set_ne h, wipe_get σ k vs]
      by_cases h2 : k ∈ vs
      · rw [if_pos h2, if_pos (List.mem_cons_of_mem _ h2)]
      · rw [if_neg h2, if_neg (by simp only [List.mem_cons, not_or]; exact ⟨fun e => h e.symm, h2⟩)]
theorem wipe_idem {σ σ2 : L2.St} {vs : List Nat} (h : ∀ k : Nat, k ∉ vs → σ2[k]? = σ[k]?) (hl : σ2.length = σ.length) : wipe σ2 vs = wipe σ vs := by
  apply List.ext_getElem?
  intro k
  rw [wipe_get, wipe_get]
  by_cases hk : k ∈ vs
  · rw [if_pos hk, if_pos hk]
    by_cases h2 : k < σ.length
    · rw [List.getElem?_eq_getElem h2, List.getElem?_eq_getElem (by omega)]
      rfl
    · rw [List.getElem?_eq_none (by omega), List.getElem?_eq_none (by omega)]
  · rw [if_neg hk, if_neg hk]
    exact h k hk
/-- the target stores in the block's own slots alone -/
def WipeOk (g : TG) (vs : List Nat) : Prop := ∀ v σ H Q, g v (wipe σ vs) H Q → g v (wipe σ vs) H fun σ2 H2 => wipe σ2 vs = wipe σ vs ∧ Q σ2 H2
theorem wipe_of {σ σ2 : L2.St} {vs : List Nat} (h : ∀ k : Nat, k ∉ vs → σ2[k]? = (wipe σ vs)[k]?) (hl : σ2.length = (wipe σ vs).length) : wipe σ2 vs = wipe σ vs :=
  wipe_idem (fun k hk => by rw [h k hk, wipe_get, if_neg hk]) (by rw [hl, wipe_length])
theorem wok_name {i : Nat} {vs : List Nat} (h : i ∈ vs) : WipeOk (gName i) vs := fun v σ H Q q =>
  ⟨wipe_of (fun k hk => List.getElem?_set_ne fun e => hk (by rw [← e]; exact h)) (by simp), q⟩
theorem wok_tup2 {i j n : Nat} {vs : List Nat} (h : i ∈ vs) (h' : j ∈ vs) : WipeOk (gTup K n (gCons (gName i) (gCons (gName j) gNil))) vs := fun v σ H Q q => by
  obtain ⟨a, xs, e1, e2, e3, v1, r1, e4, v2, r2, e5, e6, q⟩ := q
  refine ⟨a, xs, e1, e2, e3, v1, r1, e4, v2, r2, e5, e6, wipe_of (fun k hk => ?_) (by simp), q⟩
  rw [List.getElem?_set_ne fun e => hk (by rw [← e]; exact h'), List.getElem?_set_ne fun e => hk (by rw [← e]; exact h)]
theorem wok_tup3 {i j l n : Nat} {vs : List Nat} (h : i ∈ vs) (h' : j ∈ vs) (h'' : l ∈ vs) : WipeOk (gTup K n (gCons (gName i) (gCons (gName j) (gCons (gName l) gNil)))) vs := fun v σ H Q q => by
  obtain ⟨a, xs, e1, e2, e3, v1, r1, e4, v2, r2, e5, v3, r3, e6, e7, q⟩ := q
  refine ⟨a, xs, e1, e2, e3, v1, r1, e4, v2, r2, e5, v3, r3, e6, e7, wipe_of (fun k hk => ?_) (by simp), q⟩
  rw [List.getElem?_set_ne fun e => hk (by rw [← e]; exact h''), List.getElem?_set_ne fun e => hk (by rw [← e]; exact h'), List.getElem?_set_ne fun e => hk (by rw [← e]; exact h)]
theorem rvs_app {H : Hp} {y : SV} {v : V} (r : RV K H y v) : ∀ {xs : List SV} {vs : List V}, RVs K H xs vs → RVs K H (xs ++ [y]) (vs ++ [v])
  | _, _, .nil => .cons r .nil
  | _, _, .cons a b => .cons a (rvs_app r b)
theorem setF_head {D : Addr} {o o' : MO} {F : FP} (h : D ∉ F.map (·.1)) : setF ((D, o) :: F) D o' = (D, o') :: F := by
  unfold setF
  rw [List.map_cons, if_pos rfl]
  congr 1
  conv => rhs; rw [← List.map_id F]
  apply List.map_congr_left
  intro q hq
  rw [if_neg fun e => h (List.mem_map.mpr ⟨q, hq, e⟩)]
  rfl
theorem tj_lc {wi : TI} {g : TG} {tt : TT} {te : TE} {vs : List Nat} (hw : WipeOk g vs) (h : IT C wi S F fun ys F1 => ∀ D, D ∉ F1.map (·.1) → ∃ I : Nat → List SV → FP → Prop, I 0 [] F1 ∧
    (∀ i y acc F', ys[i]? = some y → I i acc F' → TGJ C g y (wipeS S vs) ((D, .lst acc) :: F') fun S2 F2 => TB C tt S2 F2 fun b F3 =>
      (b = true → TJ C te S2 F3 fun z F4 => ∃ F5, F4 = (D, .lst acc) :: F5 ∧ acc.length < 16000000 ∧ I (i + 1) (acc ++ [z]) F5) ∧ (b = false → ∃ F5, F3 = (D, .lst acc) :: F5 ∧ I (i + 1) acc F5)) ∧
    ∀ acc F', I ys.length acc F' → P (.m D) ((D, .lst acc) :: F')) : TJ C (tLc wi g tt te vs) S F P := fun σ H rs as Q q => by
  refine h σ H rs as _ fun J H1 F1 ys Gd Yr e1 a1 W hG hY hh => ?_
  intro D hD
  obtain ⟨I, i0, turn, done⟩ := hh D fun z => a1.there z hD
  obtain ⟨e2, a2⟩ := a1.new (o := .lst []) (mo := .lst []) hD fun Hh sb => ⟨[], upd_same, .nil⟩
  refine lc_it W (fun i H' => ∃ acc F', Ev C F1 H1 ((D, .lst acc) :: F') H' ∧ As C ((D, .lst acc) :: F') H' ∧ I i acc F') ⟨[], F1, e2, a2, i0⟩ (fun i H' _ ⟨acc, F', e, a, _⟩ => hG _ H' e a) ?_ ?_
  · rintro i x H' H3 hi ⟨acc, F', e, a, iv⟩ hy
    obtain ⟨e3, a3, y, ey, ry⟩ := hY i H' x H3 _ e a hi hy
    have rsw : RS K (C.hid ((D, .lst acc) :: F') H3) (wipeS S vs) (wipe σ vs) := rs_wipe (rs.sub (e1.trans (e.trans e3))) vs
    refine hw x σ H3 _ (turn i y acc F' ey iv (wipe σ vs) H3 x rsw a3 ry _ fun σ2 H2 S2 F2 e4 rs2 a4 hb => ?_)
    refine hb σ2 H2 rs2 a4 _ fun b H4 F3 e5 a5 h5 => ?_
    cases b with
    | false =>
      obtain ⟨F5, ef, i5⟩ := h5.2 rfl
      subst ef
      exact ⟨acc, F5, ((e.trans e3).trans e4).trans e5, a5, i5⟩
    | true =>
      refine h5.1 rfl σ2 H4 (rs2.sub e5) a5 _ fun z H5 u F4 e6 a6 r6 ⟨F5, ef, hz, i5⟩ => ?_
      subst ef
      obtain ⟨us, g1, g2⟩ := a6.mem _ List.mem_cons_self
      refine ⟨us, g1, Nat.lt_of_lt_of_le (by rw [← rvs_len g2]; exact hz) (by decide), acc ++ [u], F5, ?_⟩
      obtain ⟨e7, a7⟩ := a6.put (o := .lst (us ++ [z])) (mo' := .lst (acc ++ [u])) List.mem_cons_self ⟨us ++ [z], upd_same, rvs_app r6 g2⟩
      have nd : D ∉ F5.map (·.1) := (List.nodup_cons.mp a6.nd).1
      rw [setF_head nd] at e7 a7
      exact ⟨(((e.trans e3).trans e4).trans e5).trans (e6.trans e7), a7, i5⟩
  · rintro H' ⟨acc, F', e, a, iv⟩
    exact q _ H' (.m D) _ (e1.trans e) a rfl (done acc F' iv)
end
end G

namespace G
open PySem L2 RT
section
variable {K : PySem.W.Frag} {T : List Addr} {C : CC K T} {S : SS} {F : FP} {P : SV → FP → Prop} {PB : Bool → FP → Prop} {PL : List SV → FP → Prop} {te ta tb : TE} {tt tu : TT} {tl : TA} {x y z : SV} {r : R2}
/-- an owned list just made is frozen at once -/
theorem tj_frz (h : TJ C te S F fun x F1 => ∃ D ds F2, x = .m D ∧ F1 = (D, .lst (ds.map .d)) :: F2 ∧ P (.d (.list ds)) F2) : TJ C te S F P := fun σ H rs as Q q =>
  h σ H rs as _ fun v H1 x F1 e1 a1 r1 ⟨D, ds, F2, ex, ef, p⟩ => by
    subst ex ef
    obtain ⟨e2, a2, r2⟩ := a1.frz' (x := .m D) (.m List.mem_cons_self) r1
    have ne : ∀ q ∈ F2, q.1 ≠ D := fun q hq e => (List.nodup_cons.mp a1.nd).1 (by rw [← e]; exact List.mem_map.mpr ⟨q, hq, rfl⟩)
    have ef : ((D, MO.lst (ds.map .d)) :: F2).filter (fun q => decide (q.1 ≠ D)) = F2 := by
      rw [List.filter_cons, if_neg (by simp)]
      exact List.filter_eq_self.mpr fun q hq => decide_eq_true (ne q hq)
    rw [ef] at e2 a2 r2
    exact q v H1 _ F2 (e1.trans e2) a2 r2 p
/-- a comprehension whose parts leave the heap as it is: the new list, owned -/
theorem tj_lcO {wi : TI} {g : TG} {tt : TT} {te : TE} {vs : List Nat} (hw : WipeOk g vs) (h : IT C wi S F fun ys F1 => ∃ (α : Type) (l : List α) (enc : α → SV) (bb : α → Bool) (f : α → SV), ys = l.map enc ∧ l.length < 16000000 ∧
    (∀ D acc a, a ∈ l → D ∉ F1.map (·.1) → TGJ C g (enc a) (wipeS S vs) ((D, .lst acc) :: F1) fun S2 F2 => TB C tt S2 F2 fun b F3 => F3 = (D, .lst acc) :: F1 ∧ b = bb a ∧ (bb a = true → TJ C te S2 F3 fun z F4 => F4 = (D, .lst acc) :: F1 ∧ z = f a)) ∧
    ∀ D, D ∉ F1.map (·.1) → P (.m D) ((D, .lst ((l.filter bb).map f)) :: F1)) : TJ C (tLc wi g tt te vs) S F P := by
  refine tj_lc hw fun σ H rs as R q => h σ H rs as R fun J H1 F1 ys Gd Yr e1 a1 W hG hY ⟨α, l, enc, bb, f, el, hz, turn, k⟩ => q J H1 F1 ys Gd Yr e1 a1 W hG hY fun D hD => ?_
  subst el
  refine ⟨fun i acc F' => F' = F1 ∧ acc = ((l.take i).filter bb).map f ∧ acc.length ≤ i, ⟨rfl, by simp, by simp⟩, ?_, ?_⟩
  · rintro i y acc F' hi ⟨rfl, ea, hl⟩
    rw [List.getElem?_map] at hi
    obtain ⟨a, ha, rfl⟩ := Option.map_eq_some_iff.mp hi
    have hil : i < l.length := (List.getElem?_eq_some_iff.mp ha).1
    have tk : l.take (i + 1) = l.take i ++ [a] := by
      rw [List.take_succ, ha]
      rfl
    intro σ2 H2 v rs2 as2 rv Q2 q2
    refine turn D acc a (List.mem_of_getElem? ha) hD σ2 H2 v rs2 as2 rv Q2 fun σ3 H3 S3 F3 e3 rs3 a3 hb => q2 σ3 H3 S3 F3 e3 rs3 a3 ?_
    intro σ4 H4 rs4 as4 Q4 q4
    refine hb σ4 H4 rs4 as4 Q4 fun b H5 F5 e5 a5 ⟨ef, eb, ht⟩ => q4 b H5 F5 e5 a5 ⟨fun hb1 => ?_, fun hb1 => ?_⟩
    · subst eb
      intro σ6 H6 rs6 as6 Q6 q6
      refine ht hb1 σ6 H6 rs6 as6 Q6 fun z H7 u F7 e7 a7 r7 ⟨ef7, eu⟩ => q6 z H7 u F7 e7 a7 r7 ⟨F', ef7, by omega, rfl, ?_, ?_⟩
      · rw [tk, List.filter_append, List.filter_cons, if_pos hb1, List.map_append, ea, eu]
        rfl
      · rw [List.length_append, List.length_singleton]
        omega
    · subst eb
      refine ⟨F', ef, rfl, ?_, by omega⟩
      rw [tk, List.filter_append, List.filter_cons, if_neg (by rw [hb1]; exact Bool.false_ne_true), List.map_append, ea]
      simp
  · rintro acc F' ⟨rfl, ea, _⟩
    rw [List.length_map, List.take_length] at ea
    subst ea
    exact k D hD
/-- .. frozen -/
theorem tj_lcD {wi : TI} {g : TG} {tt : TT} {te : TE} {vs : List Nat} (hw : WipeOk g vs) (h : IT C wi S F fun ys F1 => ∃ (α : Type) (l : List α) (enc : α → SV) (bb : α → Bool) (f : α → PyData), ys = l.map enc ∧ l.length < 16000000 ∧
    (∀ D acc a, a ∈ l → D ∉ F1.map (·.1) → TGJ C g (enc a) (wipeS S vs) ((D, .lst acc) :: F1) fun S2 F2 => TB C tt S2 F2 fun b F3 => F3 = (D, .lst acc) :: F1 ∧ b = bb a ∧ (bb a = true → TJ C te S2 F3 fun z F4 => F4 = (D, .lst acc) :: F1 ∧ z = .d (f a))) ∧
    P (.d (.list ((l.filter bb).map f))) F1) : TJ C (tLc wi g tt te vs) S F P := by
  refine tj_frz (tj_lcO hw fun σ H rs as R q => h σ H rs as R fun J H1 F1 ys Gd Yr e1 a1 W hG hY ⟨α, l, enc, bb, f, el, hz, turn, k⟩ => q J H1 F1 ys Gd Yr e1 a1 W hG hY ⟨α, l, enc, bb, fun a => .d (f a), el, hz, turn, fun D hD => ⟨D, (l.filter bb).map f, F1, rfl, ?_, k⟩⟩)
  rw [List.map_map]
  rfl
theorem tb_yes (k : PB true F) : TB C tYes S F PB := fun σ H rs as Q q => q true H F (Sub.refl _) as k

/-! ### slices -/
abbrev TOJ (C : CC K T) (to : TO) (S : SS) (F : FP) (PO : Option Int → FP → Prop) : Prop :=
  ∀ σ H, RS K (C.hid F H) S σ → As C F H → ∀ Q : Option Int → Hp → Prop, (∀ o H' F', Ev C F H F' H' → As C F' H' → PO o F' → Q o H') → to σ H Q
theorem to_none {PO : Option Int → FP → Prop} (k : PO none F) : TOJ C tNoPart S F PO := fun σ H rs as Q q => q none H F (Sub.refl _) as k
theorem to_some {PO : Option Int → FP → Prop} (h : TJ C te S F fun x F1 => ∃ i, x = dI i ∧ PO (some i) F1) : TOJ C (tPart te) S F PO := fun σ H rs as Q q =>
  h σ H rs as _ fun v H1 x F1 e1 a1 r1 ⟨i, ex, p⟩ => by
    subst ex
    exact ⟨i, r1.int, q _ H1 F1 e1 a1 p⟩
/-- the cut of a list -/
def cutD {α : Type} (xs : List α) (lo hi : Option Int) : List α := (xs.drop (HT.sIx xs.length 0 lo)).take (HT.sIx xs.length xs.length hi - HT.sIx xs.length 0 lo)
def rSlB (K : PySem.W.Frag) : V → Option Int → Option Int → Hp → VK → Prop := fun x lo hi H Q => rSlL K x lo hi H Q ∨ rSlA K x lo hi H Q
theorem sl_any {X : Cx} : SlR X (rSlB X.K) := sl_list.or sl_tupA
theorem dps_cut {H : Hp} {xs : List V} {ds : List PyData} (h : DpAll K H xs ds) (lo hi : Option Int) : DpAll K H (cutV xs lo hi) (cutD ds lo hi) := by
  unfold cutV cutD
  rw [dps_len h]
  exact dps_take _ (dps_drop _ h)
theorem tj_sl {tlo thi : TO} (h : TJ C te S F fun x F1 => TOJ C tlo S F1 fun lo F2 => TOJ C thi S F2 fun hi F3 => (∃ ds, x = .d (.list ds) ∧ P (.d (.list (cutD ds lo hi))) F3) ∨ (∃ ds, x = .d (.tuple ds) ∧ P (.d (.tuple (cutD ds lo hi))) F3)) :
    TJ C (tSl (rSlB K) te tlo thi) S F P := fun σ H rs as Q q =>
  h σ H rs as _ fun v H1 x F1 e1 a1 r1 h1 => h1 σ H1 (rs.sub e1) a1 _ fun lo H2 F2 e2 a2 h2 => h2 σ H2 (rs.sub (e1.trans e2)) a2 _ fun hi H3 F3 e3 a3 h3 => by
    have r3 := r1.sub (e2.trans e3)
    have ee := (e1.trans e2).trans e3
    rcases h3 with ⟨ds, ex, p⟩ | ⟨ds, ex, p⟩
    · subst ex
      cases r3 with
      | lst hl hd =>
        refine .inl ⟨_, _, rfl, sql_sub hid_sub hl, fun l hn => ?_⟩
        obtain ⟨e4, a4, r4⟩ := a3.newL hn (dps_cut hd lo hi)
        exact q _ _ _ F3 (ee.trans e4) a4 r4 p
    · subst ex
      cases r3 with
      | tup hl hd =>
        rename_i a xs
        refine .inr ⟨a, xs, rfl, sqt_sub hid_sub hl, fun hw => ?_, fun hw l hn => ?_⟩
        · have : cutV xs lo hi = xs := by
            unfold cutV
            rw [hw.1, hw.2]
            simp
          have hd2 := dps_cut hd lo hi
          rw [this] at hd2
          exact q _ H3 (.d (.tuple (cutD ds lo hi))) F3 ee a3 (.tup hl hd2) p
        · obtain ⟨e4, a4, r4⟩ := a3.newT hn (dps_cut hd lo hi)
          exact q _ _ _ F3 (ee.trans e4) a4 r4 p
/-- a slice of an owned list: a new list, frozen -/
theorem tj_slM {tlo thi : TO} (h : TJ C te S F fun x F1 => TOJ C tlo S F1 fun lo F2 => TOJ C thi S F2 fun hi F3 => ∃ a ds, x = .m a ∧ (a, MO.lst (ds.map .d)) ∈ F3 ∧ P (.d (.list (cutD ds lo hi))) F3) :
    TJ C (tSl (rSlB K) te tlo thi) S F P := fun σ H rs as Q q =>
  h σ H rs as _ fun v H1 x F1 e1 a1 r1 h1 => h1 σ H1 (rs.sub e1) a1 _ fun lo H2 F2 e2 a2 h2 => h2 σ H2 (rs.sub (e1.trans e2)) a2 _ fun hi H3 F3 e3 a3 ⟨a, ds, ex, hm, p⟩ => by
    subst ex
    cases (show v = .ref a from r1)
    obtain ⟨us, g1, g2⟩ := a3.mem _ hm
    refine .inl ⟨_, _, rfl, SqL.of g1, fun l hn => ?_⟩
    obtain ⟨e4, a4, r4⟩ := a3.newL hn (dps_cut (rvs_d g2) lo hi)
    exact q _ _ _ F3 (((e1.trans e2).trans e3).trans e4) a4 r4 p

/-! ### + of tuples -/
/-- + of ints, of tuples, of lists -/
def rAddA (K : PySem.W.Frag) : R2 := fun x y H Q => rI0 (fun i j => .int (i + j)) x y H Q ∨ rCatA K x y H Q ∨ rCat x y H Q
theorem op_addA {X : Cx} : OpR X (binaryOp .Add) (rAddA X.K) := op_add.or (op_catA.or op_cat)
theorem ro_addI {i j : Int} (k : P (dI (i + j)) F) : RO C (rAddA K) (dI i) (dI j) F P := fun H v w as rv rw Q q => .inl (ro_add k H v w as rv rw Q q)
theorem ro_addT {ds es : List PyData} (hz : ds.length + es.length ≤ 16000000) (k : P (.d (.tuple (ds ++ es))) F) : RO C (rAddA K) (.d (.tuple ds)) (.d (.tuple es)) F P := fun H v w as rv rw' Q q => by
  have rv0 := rv
  have rw0 := rw'
  cases rv with
  | tup hl hd => cases rw' with
    | tup hl2 hd2 =>
      rename_i a xs b ys
      have h1 := dps_len hd
      have h2 := dps_len hd2
      refine .inr (.inl ⟨a, b, xs, ys, rfl, rfl, sqt_sub hid_sub hl, sqt_sub hid_sub hl2, Nat.le_trans (by omega) (show 16000000 ≤ sizeLine by decide), fun e => ?_, fun e1 e2 => ?_, fun e1 e2 l hn => ?_⟩)
      · subst e
        cases hd
        exact q _ H _ F (Sub.refl _) as rw0 k
      · subst e2
        cases hd2
        rw [List.append_nil] at k
        exact q _ H _ F (Sub.refl _) as rv0 k
      · obtain ⟨e4, a4, r4⟩ := as.newT hn (dps_app hd hd2)
        exact q _ _ _ F e4 a4 r4 k
/-- + of lists needs both as they stand in the heap -/
theorem ro_addL {ds es : List PyData} (hx : ∃ a, x = .m a ∧ (a, MO.lst (ds.map .d)) ∈ F) (hy : ∃ b, y = .m b ∧ (b, MO.lst (es.map .d)) ∈ F) (hz : ds.length + es.length ≤ 16000000) (k : P (.d (.list (ds ++ es))) F) : RO C (rAddA K) x y F P := fun H v w as rv rw' Q q => by
  obtain ⟨a, ex, hm⟩ := hx
  obtain ⟨b, ey, hm2⟩ := hy
  subst ex ey
  cases (show v = .ref a from rv)
  cases (show w = .ref b from rw')
  obtain ⟨us, g1, g2⟩ := as.mem _ hm
  obtain ⟨ws, g3, g4⟩ := as.mem _ hm2
  have d1 := rvs_d g2
  have d2 := rvs_d g4
  have h1 := dps_len d1
  have h2 := dps_len d2
  refine .inr (.inr ⟨a, b, us, ws, rfl, rfl, g1, g3, Nat.le_trans (by omega) (show 16000000 ≤ sizeLine by decide), fun l hn => ?_⟩)
  obtain ⟨e4, a4, r4⟩ := as.newL hn (dps_app d1 d2)
  exact q _ _ _ F e4 a4 r4 k

/-! ### isinstance -/
/-- the type of data -/
def tyD : PyData → String
  | .none => "NoneType" | .bool _ => "bool" | .int _ => "int" | .str _ => "str" | .list _ => "list" | .tuple _ => "tuple" | .dict _ => "dict"
theorem tyx_d {H : Hp} {d : PyData} {v : V} (h : Dp K H v d) (hx : ∀ a o its n, K.lookup a = some o → o.cls = .type "list" → o.data = .seq its n → True) : TyX K H v (.type (tyD d)) ∨ ∃ a o, v = .ref a ∧ H a = some o := by
  cases h with
  | non => exact .inl (.base .non)
  | bl b => exact .inl (.base (.bl b))
  | int i => exact .inl (.base (.int i))
  | str x => exact .inl (.base (.str x))
  | lst hl hd =>
    rcases hl with (h | ⟨o, h⟩) | ⟨o, its, n, hk, hc, _⟩
    · exact .inl (.base (.lst h))
    · exact .inl (.base (.frz h))
    · exact .inl (.kList hk hc)
  | tup hl hd =>
    rcases hl with (h | ⟨o, h⟩) | ⟨o, its, n, hk, hc, _⟩
    · exact .inl (.base (.tup h))
    · exact .inl (.fTuple h)
    · exact .inl (.kTuple hk hc)
theorem rc_isi {d : PyData} {n : String} {b : Bool} (hb : kitB (tyD d) n = some b) (k : P (dB b) F) : RC C (rIsi K) [.d d, .v (.ty n)] F P := fun H vs as r Q q => by
  obtain ⟨v, w, rfl, rv, rw'⟩ := rvs2 r
  have ew : w = .ty n := rw'
  subst ew
  have ty : TyX K H v (.type (tyD d)) := by
    have h : Dp K H v d := dp_sub hid_sub rv
    rcases tyx_d h (fun _ _ _ _ _ _ _ => trivial) with z | ⟨a, o, rfl, ho⟩
    · exact z
    · cases h with
      | lst hl hd =>
        rcases hl with (h | ⟨o, h⟩) | ⟨o, its, n, hk, hc, _⟩
        · exact .base (.lst h)
        · exact .base (.frz h)
        · exact .kList hk hc
      | tup hl hd =>
        rcases hl with (h | ⟨o, h⟩) | ⟨o, its, n, hk, hc, _⟩
        · exact .base (.tup h)
        · exact .fTuple h
        · exact .kTuple hk hc
  exact ⟨v, .ty n, _, _, b, rfl, .ty n, ty, kit_ty hb, q _ H (dB b) F (Sub.refl _) as (rvB b) k⟩

/-! ### is None -/
def isN : PyData → Bool
  | .none => true
  | _ => false
theorem ro_isN {d : PyData} (k : P (dB (isN d)) F) : RO C (fun x y H Q => y = V.non ∧ Q (.bl (decide (x = V.non))) H) (.d d) dN F P := fun H v w as rv rw' Q q => by
  refine ⟨rw'.non, ?_⟩
  have : decide (v = V.non) = isN d := by cases rv <;> rfl
  rw [this]
  exact q _ H (dB _) F (Sub.refl _) as (rvB _) k
theorem ro_notN {d : PyData} (k : P (dB (!isN d)) F) : RO C (fun x y H Q => y = V.non ∧ Q (.bl (!decide (x = V.non))) H) (.d d) dN F P := fun H v w as rv rw' Q q => by
  refine ⟨rw'.non, ?_⟩
  have : (!decide (v = V.non)) = !isN d := by cases rv <;> rfl
  rw [this]
  exact q _ H (dB _) F (Sub.refl _) as (rvB _) k

/-! ### contracts -/
/-- a contract: what the arguments must be, what the value is; new objects may come along -/
structure Ct where
  n : Nat
  pre : List SV → Prop
  post : List SV → SV → FP → Prop
noncomputable def Ct.sp (K : PySem.W.Frag) (T : List Addr) (c : Ct) : Sp := fun vs H Q _ => vs.length = c.n ∧ ∃ (xs : List SV) (U : Addr → Prop), (∀ a, U a → a ∉ T ∧ H a ≠ none) ∧ (∀ P ∈ T, GxR.TabG H P) ∧ RVs K (hid U T [] H) xs vs ∧ c.pre xs ∧
  ∀ y F' v H', c.post xs y F' → (∀ a o, a ∉ T → H a = some o → H' a = some o) → (∀ P ∈ T, GxR.TabG H' P) → (F'.map (·.1)).Nodup → (∀ a, a ∈ F'.map (·.1) → H a = none ∧ a ∉ T) →
    (∀ p ∈ F', RM K (hid U T F' H') H' p.1 p.2) → RV K (hid U T F' H') y v → Q v H'
theorem rs_start {H : Hp} {xs : List SV} {vs : List V} (h : RVs K H xs vs) (k : Nat) : RS K H (xs.map some ++ List.replicate k none) (vs.map some ++ List.replicate k none) := by
  induction h with
  | nil =>
    simp only [List.map_nil, List.nil_append]
    induction k with
    | zero => exact .nil
    | succ k ih => exact .cons (fun x e => by cases e) ih
  | cons a t ih => exact .cons (fun x e => by cases e; exact ⟨_, rfl, a⟩) ih
theorem As.sublist {H : Hp} {F1 : FP} (a : As C F H) (s : F1.Sublist F) : Ev C F H F1 H ∧ As C F1 H := by
  have sk : (F1.map (·.1)).Sublist (F.map (·.1)) := s.map _
  have ev : Ev C F H F1 H := fun p o h => by
    obtain ⟨⟨h1, h2, h3⟩, h4⟩ := hid_some.mp h
    exact hid_some.mpr ⟨⟨h1, h2, fun z => h3 (sk.subset z)⟩, h4⟩
  exact ⟨ev, a.ex, a.tab, a.nd.sublist sk, fun b h => a.own b (sk.subset h), fun q hq => (a.mem q (s.subset hq)).sub ev rfl⟩
/-- as it is, or frozen -/
inductive Fz : FP → SV → FP → SV → Prop
  | id {F : FP} {y : SV} : Fz F y F y
  | fr {F F' : FP} {y : SV} {d : PyData} : Frz F y F' d → Fz F y F' (.d d)
/-- the wanted ends of a def -/
def Ct.ends (c : Ct) (xs : List SV) : SE := ⟨fun _ F => ∃ G : FP, G.Sublist F ∧ c.post xs dN G, fun y F => ∃ y' F' G, Fz F y F' y' ∧ List.Sublist G F' ∧ c.post xs y' G, fun _ _ => False, fun _ _ => False⟩
/-- a body keeps its contract -/
theorem ct_body {c : Ct} {t : TS} {N : List Str} (h : ∀ (C : CC K T) xs, xs.length = c.n → c.pre xs → ST C t (xs.map some ++ List.replicate (N.length - xs.length) none) [] (c.ends xs))
    {vs : List V} {H : Hp} {Q : VK} {Ex : XK} (hs : c.sp K T vs H Q Ex) : t { nx := fun _ H' => Q .non H', rt := Q } (L2.start N vs) H := by
  obtain ⟨hn, xs, U, hU, hT, rv, hp, q⟩ := hs
  have hl := rvs_len rv
  have as0 : As (K := K) (T := T) ⟨U, fun _ => False, H, fun a h => ⟨fun z => z, hU a h⟩⟩ [] H := ⟨fun a o _ _ e => e, hT, List.Pairwise.nil, fun a h => absurd h (by simp), fun p h => absurd h (by simp)⟩
  have key := h ⟨U, fun _ => False, H, fun a h => ⟨fun z => z, hU a h⟩⟩ xs (by omega) hp (L2.start N vs) H (by
    unfold L2.start
    rw [← hl]
    exact rs_start rv _) as0
  have fin : ∀ (y : SV) (v : V) (F' : FP) (H' : Hp), As (K := K) (T := T) ⟨U, fun _ => False, H, fun a h => ⟨fun z => z, hU a h⟩⟩ F' H' → RV K (hid U T F' H') y v → (∃ G : FP, G.Sublist F' ∧ c.post xs y G) → Q v H' := fun y v F' H' a r ⟨G, sg, p⟩ => by
    obtain ⟨ev, a2⟩ := a.sublist sg
    exact q y G v H' p (fun a' o h1 h2 => a2.ex a' o (fun z => z) h1 h2) a2.tab a2.nd (fun b hb => let ⟨h1, h2⟩ := a2.own b hb; ⟨h2.elim (fun z => z.elim) id, h1⟩) a2.mem (r.sub ev)
  exact key _ ⟨fun σ' H' S' F' e rs a p => fin dN .non F' H' a rvN p, fun v H' x F' e a r ⟨y', F2, G, z, p⟩ => by
    cases z with
    | id => exact fin x v F' H' a r ⟨G, p⟩
    | fr z =>
      obtain ⟨_, a2, r2⟩ := a.frz' z r
      exact fin _ v F2 H' a2 r2 ⟨G, p⟩, fun _ _ _ _ _ _ _ z => z.elim, fun _ _ _ _ _ _ _ z => z.elim⟩
theorem hid_or {U : Addr → Prop} {F : FP} {H : Hp} : hid (fun a => U a ∨ a ∈ F.map (·.1)) T [] H = hid U T F H := by
  funext a
  have e : ((U a ∨ a ∈ F.map (·.1)) ∨ a ∈ T ∨ a ∈ ([] : FP).map (·.1)) = (U a ∨ a ∈ T ∨ a ∈ F.map (·.1)) := by
    apply propext
    constructor
    · rintro ((h | h) | h | h)
      · exact .inl h
      · exact .inr (.inr h)
      · exact .inr (.inl h)
      · simp at h
    · rintro (h | h | h)
      · exact .inl (.inl h)
      · exact .inr (.inl h)
      · exact .inl (.inr h)
  unfold hid
  by_cases h1 : (U a ∨ a ∈ F.map (·.1)) ∨ a ∈ T ∨ a ∈ ([] : FP).map (·.1)
  · rw [if_pos h1, if_pos (by rw [← e]; exact h1)]
  · rw [if_neg h1, if_neg (by rw [← e]; exact h1)]
theorem hid_or2 {U : Addr → Prop} {F F' : FP} {H : Hp} : hid (fun a => U a ∨ a ∈ F.map (·.1)) T F' H = hid U T (F' ++ F) H := by
  funext a
  have e : ((U a ∨ a ∈ F.map (·.1)) ∨ a ∈ T ∨ a ∈ F'.map (·.1)) = (U a ∨ a ∈ T ∨ a ∈ (F' ++ F).map (·.1)) := by
    apply propext
    rw [List.map_append, List.mem_append]
    constructor
    · rintro ((h | h) | h | h)
      · exact .inl h
      · exact .inr (.inr (.inr h))
      · exact .inr (.inl h)
      · exact .inr (.inr (.inl h))
    · rintro (h | h | h | h)
      · exact .inl (.inl h)
      · exact .inr (.inl h)
      · exact .inr (.inr h)
      · exact .inl (.inr h)
  unfold hid
  by_cases h1 : (U a ∨ a ∈ F.map (·.1)) ∨ a ∈ T ∨ a ∈ F'.map (·.1)
  · rw [if_pos h1, if_pos (by rw [← e]; exact h1)]
  · rw [if_neg h1, if_neg (by rw [← e]; exact h1)]
/-- a call by its contract -/
theorem cl_ct {c : Ct} {xs : List SV} (hn : xs.length = c.n) (hp : c.pre xs) (k : ∀ y F', c.post xs y F' → (∀ a, a ∈ F'.map (·.1) → a ∉ F.map (·.1)) → P y (F' ++ F)) : CL C (c.sp K T) xs F P := fun E H vs as r Q q => by
  refine ⟨by rw [← rvs_len r]; exact hn, xs, fun a => C.U a ∨ a ∈ F.map (·.1), fun a ha => ?_, as.tab, by rw [hid_or]; exact r, hp, fun y F' v H' po ex tb nd fr mem rv => ?_⟩
  · rcases ha with h | h
    · exact ⟨(C.hU a h).2.1, as.uT h⟩
    · exact ⟨(as.own a h).1, as.there h⟩
  · rw [hid_or2] at rv
    have dj : ∀ a, a ∈ F'.map (·.1) → a ∉ F.map (·.1) := fun a h1 h2 => as.there h2 (fr a h1).1
    have ev : Ev C F H (F' ++ F) H' := fun a o h => by
      obtain ⟨⟨h1, h2, h3⟩, h4⟩ := hid_some.mp h
      refine hid_some.mpr ⟨⟨h1, h2, fun z => ?_⟩, ex a o h2 h4⟩
      rw [List.map_append, List.mem_append] at z
      rcases z with z | z
      · rw [(fr a z).1] at h4; cases h4
      · exact h3 z
    refine q v H' y (F' ++ F) ev ⟨fun a o h1 h2 h3 => ex a o h2 (as.ex a o h1 h2 h3), tb, ?_, fun a h => ?_, fun p hp => ?_⟩ rv (k y F' po dj)
    · rw [List.map_append, List.nodup_append]
      exact ⟨nd, as.nd, fun a h1 b h2 e => dj a h1 (by rw [e]; exact h2)⟩
    · rw [List.map_append, List.mem_append] at h
      rcases h with h | h
      · refine ⟨(fr a h).2, ?_⟩
        by_cases hB : C.B a
        · exact .inl hB
        · cases e : C.H0 a with
          | none => exact .inr rfl
          | some o =>
            have := as.ex a o hB (fr a h).2 e
            rw [(fr a h).1] at this
            cases this
      · exact as.own a h
    · rcases List.mem_append.mp hp with h | h
      · have := mem p h
        rw [hid_or2] at this
        exact this
      · refine (as.mem p h).sub ev ?_
        have hF : p.1 ∈ F.map (·.1) := List.mem_map.mpr ⟨p, h, rfl⟩
        cases e : H p.1 with
        | none => exact absurd e (as.there hF)
        | some o => exact ex _ _ (as.own _ hF).1 e
end
section
open PySem.Spec PyProof.Rows
variable {P : Program} {w : World} {K : PySem.W.Frag} {mg : Str → Option Value} {base : Heap}
/-- THE RULE for a def by its contract -/
theorem ok_ct {x qual : Str} {st : Stmt} {f : Addr} {fd : FuncData} {N ps : List Str} {k : Nat} {T : List Addr} (c : Ct) (F : Fun K x qual st f fd) (S : FnScope N ps (defScope st)) (hn : c.n = ps.length)
    (h : ∀ (cdv : Value) (A : Around) (outer : List Env) (s : Shared) (H : Hp) (E : XK), Room k (A.deeper (envOfC qual (defScope st) s.heap.objs.size f cdv)) →
      ∃ t, PSs (cxOf CX0 P w K mg base N qual (defScope st) f cdv A outer s H E).nox (defBody st) t ∧
        ∀ (C : CC K T) xs, xs.length = c.n → c.pre xs → ST C t (xs.map some ++ List.replicate (N.length - xs.length) none) [] (c.ends xs)) :
    FnOk P w K mg base CX0 (k + 1) f fd ps (c.sp K T) :=
  F.ok S (fun vs H Q E hs => hs.1.trans hn) fun cdv A outer s H vs Q E hr hs =>
    let ⟨t, h1, h2⟩ := h cdv A outer s H E hr
    ⟨t, h1, ct_body h2 hs⟩
end
end G

namespace G
open PySem L2 RT PySem.Spec PyProof.Rows
/-! ### defs by name -/
/-- the module's name x is a def that keeps sp -/
def DefOk (P : Program) (w : World) (K : PySem.W.Frag) (mg : Str → Option Value) (base : Heap) (k : Nat) (x : Str) (ps : List Str) (sp : Sp) : Prop :=
  ∃ (f : Addr) (fd : FuncData), FnOk P w K mg base CX0 k f fd ps sp ∧ mg x = some (.ref f) ∧ PySem.W.keepIn K (.ref f) = true ∧ Binds K fd ps []
section
variable {X : Cx} {k : Nat} {x : Str} {ps : List Str} {sp : Sp} {e : Expr} {es : List Expr} {t : TA} {p pos : Pos}
theorem pe_dcall (D : DefOk X.prog X.w X.K X.mg X.base k x ps sp) (hr : Room k X.A) (hg : Gl X x) (ha : PA X (e :: es) t) (hdb : (x == ("__debug__" : Str)) = false := by decide)
    (he : starEach (e :: es) X.env = (false, eval e X.env) :: starEach es X.env := by rfl) (hpl : (backTo pos (starEach es X.env)).any (·.1) = false := by rfl) : PE X (.Call (.Name x p) (e :: es) [] pos) (tCall sp [] E0 t) := by
  obtain ⟨f, fd, F, hm, hk, hb⟩ := D
  exact pe_call F hr hg hm hk hb .nil pass0 ha hdb he hpl
theorem pe_dcall0 (D : DefOk X.prog X.w X.K X.mg X.base k x ps sp) (hr : Room k X.A) (hg : Gl X x) (hdb : (x == ("__debug__" : Str)) = false := by decide) : PE X (.Call (.Name x p) [] [] pos) (tCall sp [] E0 tNil) := by
  obtain ⟨f, fd, F, hm, hk, hb⟩ := D
  exact pe_call0 F hr hg hm hk hb .nil pass0 hdb
/-- what a for walks: a list or a tuple -/
def iSeq (K : PySem.W.Frag) (tl : TE) : TI := fun σ H R => tl σ H fun v H1 => ∃ a, v = .ref a ∧ (((∃ xs, SqL K H1 a xs) ∧ R (Itl K a) H1) ∨ ((∃ xs, SqT K H1 a xs) ∧ R (Itt K a) H1))
theorem pi_seq {tg l : Expr} {tl : TE} (hl : PE X l tl) : PI X tg l (iSeq X.K tl) := by
  constructor
  intro pins s σ H R I h
  refine thn (hl.run pins s σ H _ I h) ?_
  rintro v st ⟨x, Hx, Ix, rx, a, ea, qa⟩
  subst ea
  cases rx
  have nw : ∀ {o : Obj}, Inv X pins σ Hx { st with heap := st.heap.push o } := fun {o} => Ix.kept (t' := st.toks) fun _ _ e => Heap.get?_push_of_some o e
  have fp : ∀ b ∈ [st.heap.objs.size], FpOk X pins Hx b := fun b hb => by
    cases (List.mem_singleton.mp hb)
    exact (Ix.fpOk (Nat.le_refl _) (Ix.hok.fresh (Nat.le_refl _)))
  rcases qa with ⟨⟨xs, hq⟩, q⟩ | ⟨⟨xs, hq⟩, q⟩
  · obtain ⟨its, _, pl, _⟩ := Ix.list hq
    exact wpAny_pyIter_list pl.isList ⟨st.heap.objs.size, [st.heap.objs.size], _, _, Hx, rfl, nw, turn_list a _, ⟨_, Heap.get?_push_size _ rfl, rfl, rfl⟩, fp, q⟩
  · obtain ⟨its, _, pl, _⟩ := Ix.tuple hq
    exact wpAny_pyIter_tuple (show st.heap.IsTuple a its.toArray from pl) ⟨st.heap.objs.size, [st.heap.objs.size], _, _, Hx, rfl, nw, turn_tuple a _, ⟨_, Heap.get?_push_size _ rfl, rfl, rfl⟩, fp, q⟩
end
section
variable {K : PySem.W.Frag} {T : List Addr} {C : CC K T} {S : SS} {F : FP} {PL : List SV → FP → Prop} {te : TE}
theorem it_seqT (h : TJ C te S F fun x F1 => ∃ ds, x = .d (.tuple ds) ∧ PL (ds.map .d) F1) : IT C (iSeq K te) S F PL := fun σ H rs as R q => by
  refine h σ H rs as _ fun v H1 x F1 e1 a1 r1 ⟨ds, ex, p⟩ => ?_
  subst ex
  cases r1 with
  | tup hl hd =>
    rename_i a xs
    refine ⟨a, rfl, .inr ⟨⟨xs, sqt_sub hid_sub hl⟩, ?_⟩⟩
    have hlen : xs.length = (ds.map SV.d).length := by rw [List.length_map]; exact dps_len hd
    refine q (Itt K a) H1 F1 (ds.map .d) (fun H2 => SqT K H2 a xs) (YAt xs) e1 a1 (hlen ▸ walk_tup) (fun F2 H2 e a2 => sqt_sub hid_sub (sqt_sub e hl)) (fun i H2 v H3 F2 e a2 hi hy => ?_) p
    obtain ⟨e3, ev⟩ := hy
    subst e3
    obtain ⟨d, ed, rd⟩ := dps_getV hd ev
    exact ⟨Sub.refl _, a2, .d d, by rw [List.getElem?_map, ed]; rfl, dp_sub e rd⟩
theorem it_seqL (h : TJ C te S F fun x F1 => ∃ ds, x = .d (.list ds) ∧ PL (ds.map .d) F1) : IT C (iSeq K te) S F PL := fun σ H rs as R q => by
  refine h σ H rs as _ fun v H1 x F1 e1 a1 r1 ⟨ds, ex, p⟩ => ?_
  subst ex
  cases r1 with
  | lst hl hd =>
    rename_i a xs
    refine ⟨a, rfl, .inl ⟨⟨xs, sql_sub hid_sub hl⟩, ?_⟩⟩
    have hlen : xs.length = (ds.map SV.d).length := by rw [List.length_map]; exact dps_len hd
    refine q (Itl K a) H1 F1 (ds.map .d) (fun H2 => SqL K H2 a xs) (YAt xs) e1 a1 (hlen ▸ walk_list) (fun F2 H2 e a2 => sql_sub hid_sub (sql_sub e hl)) (fun i H2 v H3 F2 e a2 hi hy => ?_) p
    obtain ⟨e3, ev⟩ := hy
    subst e3
    obtain ⟨d, ed, rd⟩ := dps_getV hd ev
    exact ⟨Sub.refl _, a2, .d d, by rw [List.getElem?_map, ed]; rfl, dp_sub e rd⟩
end

section
variable {K : PySem.W.Frag} {T : List Addr} {C : CC K T} {S : SS} {F : FP} {E : SE} {te : TE} {t : TS} {x : SV} {P : SV → FP → Prop}
theorem ends_of {c : Ct} {xs : List SV} {y : SV} (h : c.post xs y []) : (c.ends xs).rt y F := ⟨_, _, [], .id, List.nil_sublist _, h⟩
theorem ends_fr {c : Ct} {xs : List SV} {a : Addr} {ds : List PyData} (hm : (a, MO.lst (ds.map .d)) ∈ F) (h : c.post xs (.d (.list ds)) []) : (c.ends xs).rt (.m a) F := ⟨_, _, [], .fr (.m hm), List.nil_sublist _, h⟩
theorem ends_nx {c : Ct} {xs : List SV} (h : c.post xs dN []) : (c.ends xs).nx S F := ⟨[], List.nil_sublist _, h⟩
theorem ends_full {c : Ct} {xs : List SV} {y : SV} (h : c.post xs y F) : (c.ends xs).rt y F := ⟨_, _, F, .id, List.Sublist.refl _, h⟩
theorem st_retF (h : TJ C te S F fun x F1 => ∃ d F2, Frz F1 x F2 d ∧ E.rt (.d d) F2) : ST C (tRet te) S F E := fun σ H rs as D cv => h σ H rs as _ fun v H1 x F1 e1 a1 r1 ⟨d, F2, z, p⟩ => by
  obtain ⟨e2, a2, r2⟩ := a1.frz' z r1
  exact cv.rt v H1 (.d d) F2 (e1.trans e2) a2 r2 p
/-- the value is frozen ahead of what follows -/
theorem tj_frzV (h : TJ C te S F fun x F1 => ∃ d F2, Frz F1 x F2 d ∧ P (.d d) F2) : TJ C te S F P := fun σ H rs as Q q => h σ H rs as _ fun v H1 x F1 e1 a1 r1 ⟨d, F2, z, p⟩ => by
  obtain ⟨e2, a2, r2⟩ := a1.frz' z r1
  exact q v H1 (.d d) F2 (e1.trans e2) a2 r2 p

/-! ### contracts about one object that is lent -/
structure CtB where
  n : Nat
  pre : MO → List SV → Prop
  post : MO → List SV → SV → MO → Prop
def CtB.sp (K : PySem.W.Frag) (T : List Addr) (c : CtB) : Sp := fun vs H Q _ => vs.length = c.n ∧ ∃ (p : Addr) (ws : List V) (xs : List SV) (U : Addr → Prop) (mo : MO), vs = .ref p :: ws ∧ (∀ a, U a → a ≠ p ∧ a ∉ T ∧ H a ≠ none) ∧ p ∉ T ∧ (∀ P ∈ T, GxR.TabG H P) ∧
  RVs K (hid U T [(p, mo)] H) xs ws ∧ RM K (hid U T [(p, mo)] H) H p mo ∧ c.pre mo xs ∧
  ∀ y mo' v H', c.post mo xs y mo' → (∀ a o, a ∉ T → a ≠ p → H a = some o → H' a = some o) → (∀ P ∈ T, GxR.TabG H' P) → RM K (hid U T [(p, mo')] H') H' p mo' → RV K (hid U T [(p, mo')] H') y v → Q v H'
def CtB.ends (c : CtB) (p : Addr) (mo : MO) (xs : List SV) : SE := ⟨fun _ F => ∃ mo', [(p, mo')].Sublist F ∧ c.post mo xs dN mo', fun y F => ∃ mo', [(p, mo')].Sublist F ∧ c.post mo xs y mo', fun _ _ => False, fun _ _ => False⟩
theorem ctb_body {c : CtB} {t : TS} {N : List Str} (h : ∀ (C : CC K T) p mo xs, xs.length + 1 = c.n → c.pre mo xs → ST C t ((SV.m p :: xs).map some ++ List.replicate (N.length - (xs.length + 1)) none) [(p, mo)] (c.ends p mo xs))
    {vs : List V} {H : Hp} {Q : VK} {Ex : XK} (hs : c.sp K T vs H Q Ex) : t { nx := fun _ H' => Q .non H', rt := Q } (L2.start N vs) H := by
  obtain ⟨hn, p, ws, xs, U, mo, rfl, hU, hpT, hT, rv, rm, hp, q⟩ := hs
  have hl := rvs_len rv
  have as0 : As (K := K) (T := T) ⟨U, fun a => a = p, H, fun a h => hU a h⟩ [(p, mo)] H := ⟨fun a o _ _ e => e, hT, by simp, fun a h => by
    have e : a = p := by simpa using h
    exact ⟨by rw [e]; exact hpT, .inl e⟩, fun z h => by
    have e : z = (p, mo) := by simpa using h
    subst e
    exact rm⟩
  have key := h ⟨U, fun a => a = p, H, fun a h => hU a h⟩ p mo xs (by simp only [List.length_cons] at hn; omega) hp (L2.start N (.ref p :: ws)) H (by
    unfold L2.start
    have := rs_start (xs := SV.m p :: xs) (vs := V.ref p :: ws) (H := hid U T [(p, mo)] H) (K := K) (.cons rfl rv) (N.length - (xs.length + 1))
    rw [List.length_cons, ← hl]
    exact this) as0
  have fin : ∀ (y : SV) (v : V) (F' : FP) (H' : Hp), As (K := K) (T := T) ⟨U, fun a => a = p, H, fun a h => hU a h⟩ F' H' → RV K (hid U T F' H') y v → (∃ mo', [(p, mo')].Sublist F' ∧ c.post mo xs y mo') → Q v H' := fun y v F' H' a r ⟨mo', sg, po⟩ => by
    obtain ⟨ev, a2⟩ := a.sublist sg
    exact q y mo' v H' po (fun a' o h1 h2 => a2.ex a' o h2 h1) a2.tab (a2.mem (p, mo') (by simp)) (r.sub ev)
  exact key _ ⟨fun σ' H' S' F' e rs a p => fin dN .non F' H' a rvN p, fun v H' x F' e a r p => fin x v F' H' a r p, fun _ _ _ _ _ _ _ z => z.elim, fun _ _ _ _ _ _ _ z => z.elim⟩
theorem filter_mem {F : FP} {p : Addr} {q : Addr × MO} (h : q ∈ F) (hn : q.1 ≠ p) : q.1 ∈ (F.filter fun q => decide (q.1 ≠ p)).map (·.1) := List.mem_map.mpr ⟨q, List.mem_filter.mpr ⟨h, decide_eq_true hn⟩, rfl⟩
theorem cl_ctb {c : CtB} {p : Addr} {mo : MO} {xs : List SV} (hn : xs.length + 1 = c.n) (hm : (p, mo) ∈ F) (hp : c.pre mo xs) (k : ∀ y mo', c.post mo xs y mo' → P y (setF F p mo')) : CL C (c.sp K T) (.m p :: xs) F P := fun E H vs as r Q q => by
  cases r with
  | cons r1 r2 =>
    rename_i v ws
    cases (show v = .ref p from r1)
    have hpF : p ∈ F.map (·.1) := List.mem_map.mpr ⟨_, hm, rfl⟩
    have eqH : ∀ (mo2 : MO) (H2 : Hp), hid (fun a => C.U a ∨ (a ∈ F.map (·.1) ∧ a ≠ p)) T [(p, mo2)] H2 = hid C.U T F H2 := fun mo2 H2 => by
      funext a
      have e : ((C.U a ∨ (a ∈ F.map (·.1) ∧ a ≠ p)) ∨ a ∈ T ∨ a ∈ ([(p, mo2)] : FP).map (·.1)) ↔ (C.U a ∨ a ∈ T ∨ a ∈ F.map (·.1)) := by
        constructor
        · rintro ((h | h) | h | h)
          · exact .inl h
          · exact .inr (.inr h.1)
          · exact .inr (.inl h)
          · have e : a = p := by simpa using h
            exact .inr (.inr (by rw [e]; exact hpF))
        · rintro (h | h | h)
          · exact .inl (.inl h)
          · exact .inr (.inl h)
          · by_cases e : a = p
            · exact .inr (.inr (by rw [e]; simp))
            · exact .inl (.inr ⟨h, e⟩)
      unfold hid
      by_cases h1 : C.U a ∨ a ∈ T ∨ a ∈ F.map (·.1)
      · rw [if_pos h1, if_pos (e.mpr h1)]
      · rw [if_neg h1, if_neg fun z => h1 (e.mp z)]
    refine ⟨by rw [List.length_cons, ← rvs_len r2]; exact hn, p, ws, xs, fun a => C.U a ∨ (a ∈ F.map (·.1) ∧ a ≠ p), mo, rfl, fun a ha => ?_, (as.own p hpF).1, as.tab, by rw [eqH]; exact r2, by rw [eqH]; exact as.mem _ hm, hp, fun y mo' v H' po ex tb rm rv => ?_⟩
    · rcases ha with h | ⟨h, hne⟩
      · refine ⟨fun e => ?_, (C.hU a h).2.1, as.uT h⟩
        rw [e] at h
        exact as.notU hpF h
      · exact ⟨hne, (as.own a h).1, as.there h⟩
    · rw [eqH] at rm rv
      have ev : Ev C F H (setF F p mo') H' := fun a o h => by
        obtain ⟨⟨h1, h2, h3⟩, h4⟩ := hid_some.mp h
        exact hid_some.mpr ⟨⟨h1, h2, by rw [setF_keys]; exact h3⟩, ex a o h2 (fun e => h3 (by rw [e]; exact hpF)) h4⟩
      have eh : C.hid (setF F p mo') H' = hid C.U T F H' := by
        funext a
        unfold CC.hid hid
        rw [setF_keys]
      refine q v H' y _ ev ⟨fun a o h1 h2 h3 => ?_, tb, by rw [setF_keys]; exact as.nd, by rw [setF_keys]; exact as.own, fun z hz => ?_⟩ (by rw [eh]; exact rv) (k y mo' po)
      · refine ex a o h2 (fun e => ?_) (as.ex a o h1 h2 h3)
        subst e
        rcases (as.own a hpF).2 with h | h
        · exact h1 h
        · rw [h] at h3; cases h3
      · rw [show hid C.U T (setF F p mo') H' = hid C.U T F H' from eh]
        rcases setF_mem hz with e | ⟨hz, hne⟩
        · subst e
          exact rm
        · have hF : z.1 ∈ F.map (·.1) := List.mem_map.mpr ⟨z, hz, rfl⟩
          refine (as.mem z hz).sub (Hh' := hid C.U T F H') (fun a o h => by rw [← show hid C.U T (setF F p mo') H' = hid C.U T F H' from eh]; exact ev a o h) ?_
          cases e : H z.1 with
          | none => exact absurd e (as.there hF)
          | some o => exact ex _ _ (as.own _ hF).1 hne e
end
section
variable {P : Program} {w : World} {K : PySem.W.Frag} {mg : Str → Option Value} {base : Heap}
theorem ok_ctb {x qual : Str} {st : Stmt} {f : Addr} {fd : FuncData} {N ps : List Str} {k : Nat} {T : List Addr} (c : CtB) (F : Fun K x qual st f fd) (S : FnScope N ps (defScope st)) (hn : c.n = ps.length)
    (h : ∀ (cdv : Value) (A : Around) (outer : List Env) (s : Shared) (H : Hp) (E : XK), Room k (A.deeper (envOfC qual (defScope st) s.heap.objs.size f cdv)) →
      ∃ t, PSs (cxOf CX0 P w K mg base N qual (defScope st) f cdv A outer s H E).nox (defBody st) t ∧
        ∀ (C : CC K T) p mo xs, xs.length + 1 = c.n → c.pre mo xs → ST C t ((SV.m p :: xs).map some ++ List.replicate (N.length - (xs.length + 1)) none) [(p, mo)] (c.ends p mo xs)) :
    FnOk P w K mg base CX0 (k + 1) f fd ps (c.sp K T) :=
  F.ok S (fun vs H Q E hs => hs.1.trans hn) fun cdv A outer s H vs Q E hr hs =>
    let ⟨t, h1, h2⟩ := h cdv A outer s H E hr
    ⟨t, h1, ctb_body h2 hs⟩
/-- from what the top left -/
theorem defok {x qual : Str} {st : Stmt} {f : Addr} {fd : FuncData} {ps : List Str} {k : Nat} {sp : Sp} (F : Fun K x qual st f fd) (G : FnOk P w K mg base CX0 k f fd ps sp) (hm : mg x = some (.ref f)) (hb : Binds K fd ps []) : DefOk P w K mg base k x ps sp := ⟨f, fd, G, hm, F.kp, hb⟩
end

/-! ### the rules, K named -/
section
variable {X : Cx} {K : PySem.W.Frag} (hK : X.K = K)
include hK
theorem k_eqD (hu : X.A.units + 64 < cLine) : OpR X (compareOp .Eq) (rEqD K) := hK ▸ op_eqD hu
theorem k_neD (hu : X.A.units + 64 < cLine) : OpR X (compareOp .NotEq) (rNeD K) := hK ▸ op_neD hu
theorem k_addA : OpR X (binaryOp .Add) (rAddA K) := hK ▸ op_addA
theorem k_ix : IxR X (rIx K) := hK ▸ ix_seq
theorem k_sl : SlR X (rSlB K) := hK ▸ sl_any
theorem k_in : OpR X (compareOp .In) (rIn K false) := hK ▸ op_in_seq
theorem k_notIn : OpR X (compareOp .NotIn) (rIn K true) := hK ▸ op_notIn_seq
theorem k_len : CallR X (.builtin "len") (fun xs H Q => ∃ p ys, xs = [V.ref p] ∧ (SqL K H p ys ∨ SqT K H p ys) ∧ Q (.int ys.length) H) := hK ▸ call_len_seq
theorem k_list : CallR X (.type "list") (rListOf K) := hK ▸ call_list_of
theorem k_tuple : CallR X (.type "tuple") (rTupleOf K) := hK ▸ call_tuple_of
theorem k_isi : CallR X (.builtin "isinstance") (rIsi K) := hK ▸ call_isi
theorem k_sum (hc : X.calm = true) : CallR X (.builtin "sum") (rSum K) := hK ▸ cr_sum hc
theorem k_max (hc : X.calm = true) : CallR X (.builtin "max") (rMax K) := hK ▸ cr_max hc
theorem k_min (hc : X.calm = true) : CallR X (.builtin "min") (rMin K) := hK ▸ cr_min hc
theorem k_sorted : CallR X (.builtin "sorted") (rSortedI K) := hK ▸ cr_sortedI
theorem k_seq {tg l : Expr} {tl : TE} (hl : PE X l tl) : PI X tg l (iSeq K tl) := hK ▸ pi_seq hl
theorem k_rev {tg e : Expr} {te : TE} {p pos : Pos} (hg : Gl X "reversed") (hm : X.mg "reversed" = none) (he : PE X e te) (hs : starEach [e] X.env = (false, eval e X.env) :: starEach [] X.env := by rfl) : PI X tg (.Call (.Name "reversed" p) [e] [] pos) (iRevA K te) := hK ▸ pi_revA hg hm he hs
theorem k_gtup {es : List Expr} {k : Nat} {t : TGs} {n : Nat} {pos : Pos} (hc : X.calm = true) (h : PGs X es t)
    (hn : (assignEach es X.env).length = n := by rfl) (hst : (assignEach es X.env).findIdx? (·.1) = none := by rfl) : PG X (.Tuple es k pos) (gTup K n t) := hK ▸ pg_tup hc h hn hst
theorem k_bm {e : Expr} {to : TE} {ta : TA} {n : String} {r : V → List V → Hp → VK → Prop} (h : PE X e (tBM X.K n r to ta)) : PE X e (tBM K n r to ta) := hK ▸ h
theorem k_bm0 {e : Expr} {to : TE} {n : String} {r : V → List V → Hp → VK → Prop} (h : PE X e (tBM0 X.K n r to)) : PE X e (tBM0 K n r to) := hK ▸ h
end
theorem divL {i j : Int} (h : 0 < j ∧ j < 1606938044258990275541962092341162602522202993782792835301376) : CDivW i j := by
  refine wide_div h.1 (b := 200) ?_ (by decide) (by decide)
  have e : (2 : Nat) ^ 200 = 1606938044258990275541962092341162602522202993782792835301376 := by decide
  rw [e]
  omega
theorem setF_one {p : Addr} {o o' : MO} : setF [(p, o)] p o' = [(p, o')] := by simp [setF]
section
variable {K : PySem.W.Frag} {T : List Addr} {C : CC K T} {S : SS} {F : FP} {E : SE} {t u : TS}
theorem st_nx {N N' : SS → FP → Prop} (h : ST C t S F { E with nx := N }) (k : ∀ S' F', N S' F' → N' S' F') : ST C t S F { E with nx := N' } := fun σ H rs as D cv =>
  h σ H rs as D ⟨fun σ' H' S' F' e r a p => cv.nx σ' H' S' F' e r a (k S' F' p), cv.rt, cv.bk, cv.ct⟩
/-- all ways behind t meet in M -/
theorem st_cut (M : SS → FP → Prop) (h : ST C t S F { E with nx := M }) (k : ∀ S' F', M S' F' → ST C u S' F' E) : ST C (tSeq t u) S F E := st_seq (st_nx h k)
end
theorem map_get {α β : Type} {f : α → β} {l : List α} {i : Nat} {x : α} (h : l[i]? = some x) : (l.map f)[i]? = some (f x) := by rw [List.getElem?_map, h]; rfl
/-- an item of a list of ints -/
theorem ro_ixI {K : PySem.W.Frag} {T : List Addr} {C : CC K T} {F : FP} {P : SV → FP → Prop} {ns : List Int} {i : Int} (h0 : 0 ≤ i) (h1 : i < ns.length) (k : ∀ z, z ∈ ns → ns[i.toNat]? = some z → P (dI z) F) : RO C (rIx K) (.d (.list (ns.map .int))) (dI i) F P := by
  have h : ns[i.toNat]? = some (ns[i.toNat]'(by omega)) := List.getElem?_eq_getElem _
  exact ro_ixL (atI_nat' h0 (map_get h)) (k _ (List.mem_of_getElem? h) h)
theorem ro_ixIT {K : PySem.W.Frag} {T : List Addr} {C : CC K T} {F : FP} {P : SV → FP → Prop} {ns : List Int} {i : Int} (h0 : 0 ≤ i) (h1 : i < ns.length) (k : ∀ z, z ∈ ns → ns[i.toNat]? = some z → P (dI z) F) : RO C (rIx K) (.d (.tuple (ns.map .int))) (dI i) F P := by
  have h : ns[i.toNat]? = some (ns[i.toNat]'(by omega)) := List.getElem?_eq_getElem _
  exact ro_ixT (atI_nat' h0 (map_get h)) (k _ (List.mem_of_getElem? h) h)
theorem set_go {F : FP} {a : Addr} {xs : List SV} {k : Int} {j : Nat} {Q : Addr → List SV → Int → Nat → Prop} (hm : (a, MO.lst xs) ∈ F) (hx : ixN xs.length k = some j) (h : Q a xs k j) : ∃ a' xs k' j, SV.m a = SV.m a' ∧ dI k = dI k' ∧ (a', MO.lst xs) ∈ F ∧ ixN xs.length k' = some j ∧ Q a' xs k' j :=
  ⟨a, xs, k, j, rfl, rfl, hm, hx, h⟩
theorem app_go {F : FP} {a : Addr} {xs : List SV} {Q : Addr → List SV → Prop} (hm : (a, MO.lst xs) ∈ F) (h : Q a xs) : ∃ a' xs1, SV.m a = SV.m a' ∧ (a', MO.lst xs1) ∈ F ∧ Q a' xs1 := ⟨a, xs, rfl, hm, h⟩
theorem app_go2 {F : FP} {a : Addr} {xs : List SV} {Q : List SV → Prop} (hm : (a, MO.lst xs) ∈ F) (hz : xs.length < 16000000) (h : Q xs) : ∃ xs, (a, MO.lst xs) ∈ F ∧ xs.length < 16000000 ∧ Q xs := ⟨xs, hm, hz, h⟩
end G

namespace G
open PySem L2 RT PySem.Spec PyProof.Rows
def isTup : PyData → Bool
  | .tuple _ => true
  | _ => false
def isLst : PyData → Bool
  | .list _ => true
  | _ => false
def isBl : PyData → Bool
  | .bool _ => true
  | _ => false
def isInt : PyData → Bool
  | .int _ => true
  | .bool _ => true
  | _ => false
def isStr : PyData → Bool
  | .str _ => true
  | _ => false
section
variable {K : PySem.W.Frag} {T : List Addr} {C : CC K T} {S : SS} {F : FP} {P : SV → FP → Prop}
theorem rc_isiTup {d : PyData} (k : P (dB (isTup d)) F) : RC C (rIsi K) [.d d, .v (.ty "tuple")] F P := rc_isi (by cases d <;> (dsimp only [tyD, isTup, isLst, isBl, isInt, isStr]; decide +kernel)) k
theorem rc_isiLst {d : PyData} (k : P (dB (isLst d)) F) : RC C (rIsi K) [.d d, .v (.ty "list")] F P := rc_isi (by cases d <;> (dsimp only [tyD, isTup, isLst, isBl, isInt, isStr]; decide +kernel)) k
theorem rc_isiBl {d : PyData} (k : P (dB (isBl d)) F) : RC C (rIsi K) [.d d, .v (.ty "bool")] F P := rc_isi (by cases d <;> (dsimp only [tyD, isTup, isLst, isBl, isInt, isStr]; decide +kernel)) k
theorem rc_isiInt {d : PyData} (k : P (dB (isInt d)) F) : RC C (rIsi K) [.d d, .v (.ty "int")] F P := rc_isi (by cases d <;> (dsimp only [tyD, isTup, isLst, isBl, isInt, isStr]; decide +kernel)) k
theorem rc_isiStr {d : PyData} (k : P (dB (isStr d)) F) : RC C (rIsi K) [.d d, .v (.ty "str")] F P := rc_isi (by cases d <;> (dsimp only [tyD, isTup, isLst, isBl, isInt, isStr]; decide +kernel)) k
theorem ro_eqB {a b : Bool} (k : P (dB (a == b)) F) : RO C (rEqD K) (dB a) (dB b) F P := ro_eqD rfl rfl k
theorem ro_neB {a b : Bool} (k : P (dB (a != b)) F) : RO C (rNeD K) (dB a) (dB b) F P := ro_neD rfl rfl k
end
section
variable {P : Program} {w : World} {K : PySem.W.Frag} {mg : Str → Option Value} {base : Heap} {T : List Addr}
/-- a contract that nobody can call by -/
theorem fn_none {k : Nat} {f : Addr} {fd : FuncData} {ps : List Str} {c : Ct} (h : ∀ xs, ¬ c.pre xs) : FnOk P w K mg base CX0 k f fd ps (c.sp K T) :=
  ⟨fun vs H Q E hs => (h _ hs.2.choose_spec.choose_spec.2.2.2.1).elim, fun A outer s H args us vs Q E hr he hb hv hs => (h _ hs.2.choose_spec.choose_spec.2.2.2.1).elim⟩
end
/-- data of a depth of at most n, its lists and texts not too long -/
inductive Ok : Nat → PyData → Prop
  | non {n : Nat} : Ok n .none
  | bl {n : Nat} {b : Bool} : Ok n (.bool b)
  | int {n : Nat} {i : Int} : Ok n (.int i)
  | str {n : Nat} {s : Str} : (PyData.canLay0 (.str s)) = true → Ok n (.str s)
  | lst {n : Nat} {ds : List PyData} : ds.length < 16000000 → (∀ d ∈ ds, Ok n d) → Ok (n + 1) (.list ds)
  | tup {n : Nat} {ds : List PyData} : ds.length < 16000000 → (∀ d ∈ ds, Ok n d) → Ok (n + 1) (.tuple ds)
theorem canAll {ds : List PyData} (h : ∀ d ∈ ds, PyData.canLay0 d = true) : PyData.canLayAll0 ds = true := by
  induction ds with
  | nil => rw [PyData.canLayAll0]
  | cons d ds ih =>
    rw [PyData.canLayAll0, h d (List.mem_cons_self), ih fun x hx => h x (List.mem_cons_of_mem _ hx)]
    rfl
theorem depAll {ds : List PyData} {n : Nat} (h : ∀ d ∈ ds, PyData.depth d ≤ n) : PyData.depthAll ds ≤ n := by
  induction ds with
  | nil => rw [PyData.depthAll]; exact Nat.zero_le _
  | cons d ds ih =>
    rw [PyData.depthAll]
    exact Nat.max_le.mpr ⟨h d (List.mem_cons_self), ih fun x hx => h x (List.mem_cons_of_mem _ hx)⟩
theorem Ok.can {n : Nat} {d : PyData} (h : Ok n d) : d.canLay0 = true ∧ d.depth ≤ n := by
  induction h with
  | non => exact ⟨by rw [PyData.canLay0], by rw [PyData.depth]; exact Nat.zero_le _⟩
  | bl => exact ⟨by rw [PyData.canLay0], by rw [PyData.depth]; exact Nat.zero_le _⟩
  | int => exact ⟨by rw [PyData.canLay0], by rw [PyData.depth]; exact Nat.zero_le _⟩
  | str h => exact ⟨h, by rw [PyData.depth]; exact Nat.zero_le _⟩
  | lst _ _ ih => exact ⟨by rw [PyData.canLay0]; exact canAll fun d hd => (ih d hd).1, by rw [PyData.depth]; exact Nat.succ_le_succ (depAll fun d hd => (ih d hd).2)⟩
  | tup _ _ ih => exact ⟨by rw [PyData.canLay0]; exact canAll fun d hd => (ih d hd).1, by rw [PyData.depth]; exact Nat.succ_le_succ (depAll fun d hd => (ih d hd).2)⟩
theorem Ok.shaped {n : Nat} {d : PyData} (h : Ok n d) (hn : n ≤ 60) : SeqAt.shaped d = true := by
  unfold SeqAt.shaped
  rw [h.can.1, decide_eq_true (Nat.le_trans h.can.2 (by omega))]
  rfl
abbrev OkAll (n : Nat) (ds : List PyData) : Prop := ∀ d ∈ ds, Ok n d
theorem okNil {n : Nat} : OkAll n [] := fun d h => nomatch h
theorem okCons {n : Nat} {d : PyData} {ds : List PyData} (h : Ok n d) (t : OkAll n ds) : OkAll n (d :: ds) := fun x hx => by
  rcases List.mem_cons.mp hx with rfl | hx
  · exact h
  · exact t x hx
theorem okInts {n : Nat} {ns : List Int} : OkAll n (ns.map .int) := fun x hx => by
  obtain ⟨i, _, rfl⟩ := List.mem_map.mp hx
  exact .int
theorem Ok.mono {n m : Nat} {d : PyData} (h : Ok n d) (hm : n ≤ m) : Ok m d := by
  induction h generalizing m with
  | non => exact .non
  | bl => exact .bl
  | int => exact .int
  | str h => exact .str h
  | lst hl _ ih => cases m with
    | zero => omega
    | succ m => exact .lst hl fun d hd => ih d hd (by omega)
  | tup hl _ ih => cases m with
    | zero => omega
    | succ m => exact .tup hl fun d hd => ih d hd (by omega)
/-- both data, the second one of a depth below n -/
def c_same (n : Nat) : Ct := ⟨2, fun xs => ∃ (d e : PyData) (k l : Nat), xs = [.d d, .d e] ∧ Ok k d ∧ k ≤ 60 ∧ Ok l e ∧ l < n ∧ n ≤ 60, fun xs y F => F = [] ∧ match xs with
  | [.d d, .d e] => ∃ b, y = dB b ∧ (b = true ↔ d = e)
  | _ => False⟩
/-- two lists of one length are one, if no place differs -/
theorem same_places {ds es : List PyData} (hl : ds.length = es.length) {p : Nat → Bool} (hp : ∀ i d e, ds[i]? = some d → es[i]? = some e → (p i = true ↔ d = e)) : ((List.range es.length).filter (fun i => !p i)).length = 0 ↔ ds = es := by
  constructor
  · intro h
    apply List.ext_getElem? 
    intro i
    by_cases hi : i < es.length
    · have h2 : i < ds.length := by omega
      rw [List.getElem?_eq_getElem hi, List.getElem?_eq_getElem h2]
      have q := (hp i _ _ (List.getElem?_eq_getElem h2) (List.getElem?_eq_getElem hi)).mp ?_
      · rw [q]
      · cases e : p i with
        | true => rfl
        | false =>
          have : i ∈ (List.range es.length).filter (fun i => !p i) := List.mem_filter.mpr ⟨List.mem_range.mpr hi, by rw [e]; rfl⟩
          rw [List.length_eq_zero_iff.mp h] at this
          cases this
    · rw [List.getElem?_eq_none (by omega), List.getElem?_eq_none (by omega)]
  · intro h
    subst h
    rw [List.length_eq_zero_iff, List.filter_eq_nil_iff]
    intro i hi
    have hi2 := List.mem_range.mp hi
    rw [(hp i _ _ (List.getElem?_eq_getElem hi2) (List.getElem?_eq_getElem hi2)).mpr rfl]
    simp
theorem rg0 (n : Nat) : rg 0 n = (List.range n).map fun i => dI (i : Nat) := by
  unfold rg
  apply List.map_congr_left
  intro i _
  rw [Int.zero_add]
end G

namespace G
open PySem L2 RT PySem.Spec PyProof.Rows
theorem fm_congr {α β : Type} {f g : α → Option β} : ∀ {l : List α}, (∀ a ∈ l, f a = g a) → l.filterMap f = l.filterMap g
  | [], _ => rfl
  | a :: l, h => by
    rw [List.filterMap_cons, List.filterMap_cons, h a (List.mem_cons_self), fm_congr fun b hb => h b (List.mem_cons_of_mem _ hb)]
/-! ### t[::-1] of a tuple, of a list -/
section
variable {prog : Program} {w : World} {A : Around} {E : Value → Shared → Prop} {s : Shared}
theorem adj_back (n : Nat) : Builtin.Slice.sliceAdjust none none (-1) (n : Int) = ((n : Int) - 1, -1) := by
  unfold Builtin.Slice.sliceAdjust
  rfl
theorem pls_back (n : Nat) : Builtin.Slice.slicePlaces ((n : Int) - 1) (-1) (-1) = n := by
  unfold Builtin.Slice.slicePlaces
  have q : ¬ ((-1 : Int) > 0) := by decide
  simp only [q, if_false]
  split
  · rw [show -(-1 : Int) = 1 from rfl, Int.ediv_one]; omega
  · omega
theorem applied_back {sa : Addr} {n : Nat} {t : Tok} {Q : Int × Int × Nat → Shared → Prop} (hs : s.heap.IsSliceOf sa .none .none (.int (-1) t)) (k : Q ((n : Int) - 1, -1, n) s) :
    wpAny (model prog w) A (Builtin.Slice.sliceApplied (.ref sa) (pure (n : Int))) Q E s := by
  obtain ⟨ob, e1, _, e3⟩ := id hs
  unfold Builtin.Slice.sliceApplied
  unfold Builtin.Slice.sliceFields
  refine wpAny_bind (wpAny_bind ?_)
  refine wpAny_field e1 e3 (x := .none) rfl (wpAny_bind ?_)
  refine wpAny_field e1 e3 (x := .none) rfl (wpAny_bind ?_)
  refine wpAny_field e1 e3 (x := .int (-1) t) rfl ?_
  refine wpAny_pure (wpAny_bind (slicePart_int ?_))
  show wpAny _ _ (if ((-1 : Int) == 0) = true then _ else _) _ _ s
  rw [if_neg (by decide)]
  refine wpAny_bind (slicePart_none (wpAny_bind (slicePart_none ?_)))
  refine wpAny_bind (wpAny_pure ?_)
  show wpAny _ _ (match Builtin.Slice.sliceAdjust none none (-1) (n : Int) with | (x, y) => pure (x, (-1 : Int), Builtin.Slice.slicePlaces x y (-1))) _ _ s
  rw [adj_back]
  show wpAny _ _ (pure ((n : Int) - 1, (-1 : Int), Builtin.Slice.slicePlaces ((n : Int) - 1) (-1) (-1))) _ _ s
  rw [pls_back]
  exact wpAny_pure k
theorem pick_back (xs : Array Value) : ((List.range xs.size).filterMap fun (m : Nat) => xs[((xs.size : Int) - 1 + (m : Int) * (-1)).toNat]?).toArray = xs.toList.reverse.toArray := by
  congr 1
  have gen : ∀ (l : List Value), (List.range l.length).filterMap (fun m => l[l.length - 1 - m]?) = l.reverse := by
    intro l
    apply List.ext_getElem?
    intro i
    have e : (List.range l.length).filterMap (fun m => l[l.length - 1 - m]?) = (List.range l.length).map (fun m => l.getD (l.length - 1 - m) .none) := by
      rw [← List.filterMap_eq_map]
      apply fm_congr
      intro m hm
      have := List.mem_range.mp hm
      have h2 : l.length - 1 - m < l.length := by omega
      simp [List.getD, h2]
    rw [e, List.getElem?_map]
    by_cases hi : i < l.length
    · rw [List.getElem?_range hi, List.getElem?_reverse hi]
      have h2 : l.length - 1 - i < l.length := by omega
      simp [List.getD, h2]
    · rw [List.getElem?_eq_none (by simpa using hi), List.getElem?_eq_none (by simpa using hi)]
      rfl
  have e2 : (List.range xs.size).filterMap (fun (m : Nat) => xs[((xs.size : Int) - 1 + (m : Int) * (-1)).toNat]?) = (List.range xs.toList.length).filterMap (fun m => xs.toList[xs.toList.length - 1 - m]?) := by
    rw [Array.length_toList]
    apply fm_congr
    intro m hm
    have := List.mem_range.mp hm
    rw [show ((xs.size : Int) - 1 + (m : Int) * (-1)).toNat = xs.size - 1 - m by omega, Array.getElem?_toList]
  rw [e2, gen]
theorem item_back {t sa : Addr} {items : Array Value} {k : Tok} {Q : Value → Shared → Prop} (ht : IsTup s.heap t items) (hs : s.heap.IsSliceOf sa .none .none (.int (-1) k))
    (h : Q (.ref s.heap.objs.size) { s with heap := s.heap.push { cls := .type "tuple", data := .seq items.toList.reverse.toArray } }) (hz : items.size ≤ sizeLine) :
    wpAny (model prog w) A (getItem (.ref t) (.ref sa)) Q E s := by
  have fits : sizeOk (.seq items.toList.reverse.toArray) := by
    show items.toList.reverse.toArray.size ≤ sizeLine
    simpa using hz
  obtain ⟨ob, e1, e2, e3⟩ := id hs
  have ty : s.TypeIs (.ref sa) "slice" := ⟨ob, e1, e2⟩
  unfold getItem
  try with_reducible refine wpAny_holding ?_
  first | (refine wpAny_bind (wpAny_pure ?_)) | skip
  refine wpAny_bind (wpAny_sequenceKey ht.typeIs (by decide) (wpAny_bind ?_))
  refine wpAny_callSpecial?_slot (name := Str.ofString "__getitem__") ht.typeIs slot_tuple_getitem ?_
  refine wpAny_call_entry slot_tuple_getitem ht.typeIs entry_tuple_getitem ?_ (args_tuple_getitem _ _)
  show wpAny _ _ (Builtin.Tuple.tupleItemsOf (.ref t) >>= _) _ _ s
  refine wpAny_bind (tupleItemsOf_ ht (wpAny_bind (wpAny_typeOf ty ?_)))
  rw [if_pos (by decide)]
  refine wpAny_bind (applied_back hs ?_)
  show wpAny _ _ (if ((((items.size : Int) - 1) == 0 && (-1 : Int) == 1 && items.size == items.size) = true) then _ else _) _ _ s
  rw [if_neg (by simp), pick_back]
  first
    | exact wpAny_bind (m := Builtin.Tuple.tupleExact _) (wpAny_newObj_type (wpAny_pure ⟨_, rfl, wpAny_pure h⟩) fits)
    | exact wpAny_bind (m := Builtin.Tuple.tupleExact _) (wpAny_newObj_type (wpAny_bind (wpAny_pure (wpAny_pure ⟨_, rfl, wpAny_pure h⟩))) fits)
end
section
variable {X : Cx}
/-- e[::-1], of a tuple or a list -/
def tBack (K : PySem.W.Frag) (te : TE) : TE := fun σ H Q => te σ H fun x H1 => ∃ a xs, x = .ref a ∧ ((SqT K H1 a xs ∧ ∀ p, H1 p = none → Q (.ref p) (upd H1 p (.tup xs.reverse))) ∨ (SqL K H1 a xs ∧ ∀ p, H1 p = none → Q (.ref p) (upd H1 p (.lst xs.reverse))))
theorem pe_back {e : Expr} {te : TE} {k : Nat} {q1 q2 q3 pos : Pos} (he : PE X e te) : PE X (.Subscript e (.Slice none none (some (.UnaryOp .USub (.Constant (.int 1) k q1) q2)) q3) pos) (tBack X.K te) := by
  constructor
  intro pins s σ H Q I h
  refine Subscript_ (thn (he.run pins s σ H _ I h) ?_)
  rintro v st ⟨x, Hx, Ix, rx, a, xs, ex, hx⟩
  subst ex
  cases rx
  have stp : PO X (some (.UnaryOp .USub (.Constant (.int 1) k q1) q2)) (tPart (tUn (rU fun i => .int (-i)) (tC (.int 1)))) := po_some (pe_un un_neg pe_int)
  refine wpAny_Slice (thn (po_none.run pins st σ Hx (fun o H2 => o = none ∧ H2 = Hx) Ix ⟨rfl, rfl⟩) ?_)
  rintro vl s2 ⟨l, H2, I2, pl, el, e2⟩
  subst el e2
  refine thn (po_none.run pins s2 σ H2 (fun o H3 => o = none ∧ H3 = H2) I2 ⟨rfl, rfl⟩) ?_
  rintro vu s3 ⟨u, H3, I3, pu, eu, e3⟩
  subst eu e3
  refine thn (stp.run pins s3 σ H3 (fun o H4 => o = some (-1) ∧ H4 = H3) I3 ⟨1, rfl, -1, rfl, rfl, rfl⟩) ?_
  rintro vs s4 ⟨o, H4, I4, ps, eo, e4⟩
  subst eo e4
  have I5 : Inv X pins σ H4 { s4 with heap := s4.heap.push { cls := .type "slice", data := .fields #[vl, vu, vs] } } := I4.kept (t' := s4.toks) fun _ _ q => Heap.get?_push_of_some _ q
  cases pl
  cases pu
  cases ps
  rename_i tk
  show wpAny (model X.prog X.w) X.A (subscriptTail e (.Slice none none (some (.UnaryOp .USub (.Constant (.int 1) k q1) q2)) q3) (.ref a) (.ref s4.heap.objs.size)) (EP X pins σ Q) X.xe { s4 with heap := s4.heap.push { cls := .type "slice", data := .fields #[.none, .none, .int (-1) tk] } }
  rcases hx with ⟨hx, hq⟩ | ⟨hx, hq⟩
  · obtain ⟨its, r, ht, hz⟩ := I5.tuple hx
    have hl := r.length
    refine tail_any (ops := [.ref a, .ref s4.heap.objs.size]) ht.typeIs (slot_tuple_getitem.lookup) ?_ (by with_unfolding_all rfl)
    refine item_back ht (Heap.IsSliceOf.new _ .none .none (.int (-1) tk)) ?_ (by rw [List.size_toArray]; omega)
    refine ⟨.ref _, _, I5.laid (t' := s4.toks) (o := .tup xs.reverse) (fun _ _ q => Heap.get?_push_of_some _ q) (Nat.le_refl _) ?_, rfl, hq _ (I5.hok.fresh (Nat.le_refl _))⟩
    exact ⟨by rw [List.length_reverse]; exact hz, its.reverse, r.reverse, ⟨_, Heap.get?_push_size _ rfl, rfl, _, rfl⟩⟩
  · obtain ⟨its, r, ht, hz⟩ := I5.list hx
    have hl := r.length
    refine tail_any (ops := [.ref a, .ref s4.heap.objs.size]) ht.isList.typeIs (PySem.slot_list_getitem.lookup) ?_ (by with_unfolding_all rfl)
    refine wpAny_getItem_list_slice ht.isList (Heap.IsSliceOf.new _ .none .none (.int (-1) tk)) .none .none (.int _ _) (by decide) ?_ (by rw [List.size_toArray]; omega)
    rw [PySem.W.krv_pick]
    refine ⟨.ref _, _, I5.laid (t' := s4.toks) (o := .lst xs.reverse) (fun _ _ q => Heap.get?_push_of_some _ q) (Nat.le_refl _) ?_, rfl, hq _ (I5.hok.fresh (Nat.le_refl _))⟩
    exact ⟨by rw [List.length_reverse]; exact hz, _, 0, r.reverse, Heap.get?_push_size _ rfl⟩
theorem k_back {K : PySem.W.Frag} (hK : X.K = K) {e : Expr} {te : TE} {k : Nat} {q1 q2 q3 pos : Pos} (he : PE X e te) : PE X (.Subscript e (.Slice none none (some (.UnaryOp .USub (.Constant (.int 1) k q1) q2)) q3) pos) (tBack K te) := hK ▸ pe_back he
end
section
variable {K : PySem.W.Frag} {T : List Addr} {C : CC K T} {S : SS} {F : FP} {P : SV → FP → Prop} {te : TE}
theorem tj_back (h : TJ C te S F fun x F1 => (∃ ds, x = .d (.tuple ds) ∧ P (.d (.tuple ds.reverse)) F1) ∨ (∃ ds, x = .d (.list ds) ∧ P (.d (.list ds.reverse)) F1)) : TJ C (tBack K te) S F P := fun σ H rs as Q q =>
  h σ H rs as _ fun v H1 x F1 e1 a1 r1 h3 => by
    rcases h3 with ⟨ds, ex, p⟩ | ⟨ds, ex, p⟩
    · subst ex
      cases r1 with
      | tup hl hd =>
        refine ⟨_, _, rfl, .inl ⟨sqt_sub hid_sub hl, fun l hn => ?_⟩⟩
        obtain ⟨e4, a4, r4⟩ := a1.newT hn (dps_rev hd)
        exact q _ _ _ F1 (e1.trans e4) a4 r4 p
    · subst ex
      cases r1 with
      | lst hl hd =>
        refine ⟨_, _, rfl, .inr ⟨sql_sub hid_sub hl, fun l hn => ?_⟩⟩
        obtain ⟨e4, a4, r4⟩ := a1.newL hn (dps_rev hd)
        exact q _ _ _ F1 (e1.trans e4) a4 r4 p
end
end G

namespace G
open PySem L2 RT PySem.Spec PyProof.Rows
section
variable {K : PySem.W.Frag} {T : List Addr} {C : CC K T} {S : SS} {F : FP} {P P' : SV → FP → Prop} {te : TE} {E : SE} {t : TS} {wi : TI} {tl : TA} {tt : TT}
theorem TJ.mono (h : TJ C te S F P') (k : ∀ x F', P' x F' → P x F') : TJ C te S F P := fun σ H rs as Q q => h σ H rs as Q fun v H' x F' e a r p => q v H' x F' e a r (k x F' p)
theorem CL.mono {sp : Sp} {xs : List SV} (h : CL C sp xs F P') (k : ∀ x F', P' x F' → P x F') : CL C sp xs F P := fun E H vs as r Q q => h E H vs as r Q fun v H' x F' e a r p => q v H' x F' e a r (k x F' p)
/-- an item of a written tuple at a place that is not written -/
theorem ro_ixA {ds : List PyData} {i : Int} (h0 : 0 ≤ i) (h1 : i < ds.length) (k : ∀ d ∈ ds, P (.d d) F) : RO C (rIx K) (.d (.tuple ds)) (dI i) F P := by
  have h : ds[i.toNat]? = some (ds[i.toNat]'(by omega)) := List.getElem?_eq_getElem _
  exact ro_ixT (atI_nat' h0 h) (k _ (List.mem_of_getElem? h))
/-- the first n names kept, the others forgotten -/
def keepS (n : Nat) (S : SS) : SS := S.take n ++ List.replicate (S.length - n) none
theorem st_keep (n : Nat) (h : ST C t (keepS n S) F E) : ST C t S F E := by
  refine st_forget (fun i x e => ?_) ?_ h
  · unfold keepS at e
    by_cases hi : i < (S.take n).length
    · rw [List.getElem?_append_left hi, List.getElem?_take] at e
      split at e
      · exact e
      · cases e
    · rw [List.getElem?_append_right (by omega), List.getElem?_replicate] at e
      split at e
      · cases e
      · cases e
  · unfold keepS
    simp
    omega
theorem keep1 {a : Option SV} {R : SS} {n : Nat} (h : R.length = n) : keepS 1 (a :: R) = a :: List.replicate n none := by subst h; simp [keepS]
theorem keep2 {a b : Option SV} {R : SS} {n : Nat} (h : R.length = n) : keepS 2 (a :: b :: R) = a :: b :: List.replicate n none := by subst h; simp [keepS]
theorem keep3 {a b c : Option SV} {R : SS} {n : Nat} (h : R.length = n) : keepS 3 (a :: b :: c :: R) = a :: b :: c :: List.replicate n none := by subst h; simp [keepS]
theorem keep4 {a b c d : Option SV} {R : SS} {n : Nat} (h : R.length = n) : keepS 4 (a :: b :: c :: d :: R) = a :: b :: c :: d :: List.replicate n none := by subst h; simp [keepS]

/-- owned objects are let go -/
theorem st_sub {F1 : FP} (s : List.Sublist F1 F) (h : ST C t S F1 E) : ST C t S F E := fun σ H rs as D cv => by
  obtain ⟨e, a⟩ := as.sublist s
  exact h σ H (rs.sub e) a D (cv.ev e)
theorem fz_d {F2 : FP} {x : PyData} {xs : List SV} {ds : List PyData} (h : FrzAll F xs F2 ds) : FrzAll F (.d x :: xs) F2 (x :: ds) := .cons (.d x) h
theorem tup_go {F2 : FP} {xs : List SV} {ds : List PyData} {Q : List PyData → FP → Prop} (fz : FrzAll F xs F2 ds) (hz : xs.length ≤ 1000) (h : Q ds F2) : ∃ ds F2, FrzAll F xs F2 ds ∧ xs.length ≤ 1000 ∧ Q ds F2 := ⟨ds, F2, fz, hz, h⟩
/-! ### the pool of a law -/
def isPool (mo : MO) : Prop := ∃ (ns : List Int) (i c n salt : Int), mo = .lst [.d (.list (ns.map .int)), dI i, dI c, dI n, dI salt] ∧ 0 ≤ i
def c_pool : Ct := ⟨1, fun xs => ∃ ns : List Int, xs = [.d (.list (ns.map .int))], fun xs y F => ∃ p mo, F = [(p, mo)] ∧ isPool mo ∧ y = .m p⟩
def c_spread : Ct := ⟨1, fun xs => ∃ a : Int, xs = [dI a], fun xs y F => F = [] ∧ ∃ z, y = dI z⟩
def c_draw : CtB := ⟨2, fun mo xs => isPool mo ∧ ∃ n : Int, xs = [dI n] ∧ 0 < n ∧ n < 2 ^ 199, fun mo xs y mo' => isPool mo' ∧ match xs with
  | [.d (.int n)] => ∃ v, y = dI v ∧ 0 ≤ v ∧ v < n
  | _ => False⟩
theorem two199 : (2 : Int) ^ 199 = 803469022129495137770981046170581301261101496891396417650688 := by decide
/-- a draw: the pool may stand among others -/
theorem cl_draw {p : Addr} {mo : MO} {n : Int} (hm : (p, mo) ∈ F) (hp : isPool mo) (h0 : 0 < n ∧ n < 803469022129495137770981046170581301261101496891396417650688) (k : ∀ v mo', 0 ≤ v → v < n → isPool mo' → P (dI v) (setF F p mo')) : CL C (c_draw.sp K T) [.m p, dI n] F P :=
  cl_ctb (c := c_draw) rfl hm ⟨hp, n, rfl, h0.1, by rw [two199]; exact h0.2⟩ fun y mo' ⟨h1, v, e, h2, h3⟩ => by
    subst e
    exact k v mo' h2 h3 h1
/-- .. the pool alone -/
theorem cl_draw1 {p : Addr} {mo : MO} {n : Int} (hp : isPool mo) (h0 : 0 < n ∧ n < 803469022129495137770981046170581301261101496891396417650688) (k : ∀ v mo', 0 ≤ v → v < n → isPool mo' → P (dI v) [(p, mo')]) : CL C (c_draw.sp K T) [.m p, dI n] [(p, mo)] P :=
  cl_draw (List.Mem.head _) hp h0 fun v mo' h1 h2 h3 => by
    rw [setF_one]
    exact k v mo' h1 h2 h3
/-- .. the pool behind a list that is being built -/
theorem cl_draw2 {p D : Addr} {o mo : MO} {n : Int} (hne : p ≠ D) (hp : isPool mo) (h0 : 0 < n ∧ n < 803469022129495137770981046170581301261101496891396417650688) (k : ∀ v mo', 0 ≤ v → v < n → isPool mo' → P (dI v) [(D, o), (p, mo')]) : CL C (c_draw.sp K T) [.m p, dI n] [(D, o), (p, mo)] P :=
  cl_draw (List.Mem.tail _ (List.Mem.head _)) hp h0 fun v mo' h1 h2 h3 => by
    have e : setF [(D, o), (p, mo)] p mo' = [(D, o), (p, mo')] := by simp [setF, Ne.symm hne]
    rw [e]
    exact k v mo' h1 h2 h3
/-! ### gcd by steps -/
/-- the steps of gcd -/
def gcdInv (a b : Nat) (i : Nat) (x y : Nat) : Prop := Nat.gcd x y = Nat.gcd a b ∧ (y = 0 ∨ (i = 0 ∧ x = a ∧ y = b) ∨ (1 ≤ i ∧ y ≤ x ∧ x * y * 2 ^ i ≤ 2 * b * b))
theorem gcdInv_step {a b i x y : Nat} (h : gcdInv a b i x y) (hy : y ≠ 0) : gcdInv a b (i + 1) y (x % y) := by
  obtain ⟨h1, h2⟩ := h
  refine ⟨?_, ?_⟩
  · rw [← h1, Nat.gcd_comm x y, Nat.gcd_rec y x, Nat.gcd_comm]
  have hlt : x % y < y := Nat.mod_lt _ (by omega)
  by_cases hz : x % y = 0
  · exact .inl hz
  refine .inr (.inr ⟨by omega, by omega, ?_⟩)
  rcases h2 with h2 | ⟨hi, hx, hy2⟩ | ⟨hi, hyx, hb⟩
  · exact absurd h2 hy
  · subst hi
    have : y * (x % y) ≤ b * b := by rw [hy2] at hlt ⊢; exact Nat.mul_le_mul_left _ (by omega)
    have e : y * (x % y) * 2 ^ (0 + 1) = 2 * (y * (x % y)) := by rw [Nat.zero_add, Nat.pow_one, Nat.mul_comm]
    rw [e, Nat.mul_assoc]
    exact Nat.mul_le_mul_left _ this
  · have hd : y * (x / y) + x % y = x := Nat.div_add_mod x y
    have hq : 1 ≤ x / y := Nat.div_pos hyx (by omega)
    have h3 : 2 * (x % y) ≤ x := by
      have : y * 1 ≤ y * (x / y) := Nat.mul_le_mul_left _ hq
      omega
    have e : y * (x % y) * 2 ^ (i + 1) = (2 * (x % y)) * y * 2 ^ i := by
      rw [Nat.pow_succ, Nat.mul_comm (2 ^ i) 2, ← Nat.mul_assoc, Nat.mul_comm y (x % y), Nat.mul_assoc (x % y) y 2, Nat.mul_comm y 2, ← Nat.mul_assoc, Nat.mul_comm (x % y) 2]
    rw [e]
    exact Nat.le_trans (Nat.mul_le_mul_right _ (Nat.mul_le_mul_right _ h3)) hb
theorem gcdInv_end {a b x y : Nat} (h : gcdInv a b 2000 x y) (hb : b < 2 ^ 500) : x = Nat.gcd a b := by
  obtain ⟨h1, h2⟩ := h
  have hy : y = 0 := by
    rcases h2 with h2 | ⟨hi, _⟩ | ⟨_, hyx, h3⟩
    · exact h2
    · omega
    · by_cases hy : y = 0
      · exact hy
      have : 1 ≤ x * y := Nat.mul_pos (by omega) (by omega)
      have h4 : 2 ^ 2000 ≤ x * y * 2 ^ 2000 := by
        have := Nat.mul_le_mul_right (2 ^ 2000) this
        rwa [Nat.one_mul] at this
      have h5 : 2 * b * b < 2 ^ 2000 := by
        have h6 : 2 * b * b ≤ 2 * 2 ^ 500 * 2 ^ 500 := Nat.mul_le_mul (by omega) (by omega)
        have h7 : (2 * 2 ^ 500 * 2 ^ 500 : Nat) < 2 ^ 2000 := by decide +kernel
        omega
      omega
  rw [hy, Nat.gcd_zero_right] at h1
  exact h1
theorem mod_nat (a b : Nat) : (a : Int) % (b : Int) = ((a % b : Nat) : Int) := (Int.natCast_emod a b).symm
theorem div_nat (a b : Nat) : (a : Int) / (b : Int) = ((a / b : Nat) : Int) := (Int.natCast_ediv a b).symm
/-- gcd -/
def c_common : Ct := ⟨2, fun xs => ∃ a b : Nat, xs = [dI a, dI b] ∧ b < 2 ^ 500, fun xs y F => F = [] ∧ match xs with
  | [.d (.int a), .d (.int b)] => y = dI (Int.gcd a b : Nat)
  | _ => False⟩
theorem cl_same {n k l : Nat} {d e : PyData} (hk : Ok k d) (k1 : k ≤ 60) (he : Ok l e) (l1 : l < n) (n1 : n ≤ 60) (q : ∀ b, (b = true ↔ d = e) → P (dB b) F) : CL C ((c_same n).sp K T) [.d d, .d e] F P :=
  cl_ct rfl ⟨d, e, k, l, rfl, hk, k1, he, l1, n1⟩ fun y F' ⟨h1, b, h2, h3⟩ _ => by
    subst h1 h2
    exact q b h3
theorem cl_same_yes {n k : Nat} {d e : PyData} (hde : d = e) (hk : Ok k d) (k1 : k < n) (n1 : n ≤ 60) (q : P (dB true) F) : CL C ((c_same n).sp K T) [.d d, .d e] F P := by
  subst hde
  refine cl_same hk (by omega) hk k1 n1 fun b hb => ?_
  rw [hb.mpr rfl]
  exact q
/-! ### a law's own promise -/
def c_law : Ct := ⟨1, fun xs => ∃ ns : List Int, xs = [.d (.list (ns.map .int))], fun _ y F => F = [] ∧ y = dB true⟩
end
section
theorem law_ready {K : PySem.W.Frag} {H : Hp} {a : Addr} {ns : List Int} {Q : VK} {Ex : XK} (hS : SqL K H a (ns.map V.int)) (k : ∀ H', Q (.bl true) H') : c_law.sp K [] [.ref a] H Q Ex := by
  refine ⟨rfl, [.d (.list (ns.map .int))], (fun _ => False), (fun _ (z : False) => z.elim), (fun b hb => absurd hb (by simp)), Paired.cons ?_ Paired.nil, ⟨ns, rfl⟩, fun y F' v H' ⟨hF, hy⟩ _ _ _ _ _ rv => ?_⟩
  · have e : hid (fun _ => False) [] [] H = H := by
      funext b
      unfold hid
      rw [if_neg (by simp)]
    rw [e]
    exact .lst hS (ints_dps ns)
  · subst hy
    rw [rv.bl]
    exact k H'
end
end G
namespace G
open PySem L2 RT PySem.Spec PyProof.Rows
/-! ### what the top has left of a def -/
def FnAt (K : PySem.W.Frag) (x : Str) (st : Stmt) : Prop := ∃ (f : Addr) (oc : Value) (od an : Option Addr) (sl : Array (Option Value)) (kV dc pm cd ct : Value),
  PySem.W.nsIn K mainGlobals x = some (some (.ref f)) ∧ K.lookup f = some ⟨oc, od, .func (PySem.W.fnOf x x (defArgs st) (defBody st) (defScope st) .none kV dc pm an cd ct), sl⟩ ∧ PySem.W.codeIn K cd x = true ∧ PySem.W.keepIn K (.ref f) = true
theorem fn_mk {K : PySem.W.Frag} {x : Str} {st : Stmt} {f : Addr} {oc : Value} {od an : Option Addr} {sl : Array (Option Value)} {kV dc pm cd ct : Value} (h1 : PySem.W.nsIn K mainGlobals x = some (some (.ref f))) (h2 : K.lookup f = some ⟨oc, od, .func (PySem.W.fnOf x x (defArgs st) (defBody st) (defScope st) .none kV dc pm an cd ct), sl⟩) (h3 : PySem.W.codeIn K cd x = true) (h4 : PySem.W.keepIn K (.ref f) = true) : FnAt K x st :=
  ⟨f, oc, od, an, sl, kV, dc, pm, cd, ct, h1, h2, h3, h4⟩
theorem fn_at {K : PySem.W.Frag} {x : Str} {st : Stmt} {h : Heap} {mg : Str → Option Value} (X : K.In h) (G : h.Ns mainGlobals mg) (a : FnAt K x st) :
    ∃ (f : Addr) (kV dc pm : Value) (an : Option Addr) (cd ct : Value), Fun K x x st f (PySem.W.fnOf x x (defArgs st) (defBody st) (defScope st) .none kV dc pm an cd ct) ∧ mg x = some (.ref f) := by
  obtain ⟨f, oc, od, an, sl, kV, dc, pm, cd, ct, h1, h2, h3, h4⟩ := a
  exact ⟨f, kV, dc, pm, an, cd, ct, fun_mk (st := st) h2 h3 h4, PySem.W.mg_of X G h1⟩
end G

namespace M80
/-- the best fraction from below with a second member of at most n + 1 -/
def lowF (p q : Int) : Nat → Int × Int
  | 0 => (p / q, 1)
  | n + 1 => if (lowF p q n).1 * ((n : Int) + 2) < p * ((n : Int) + 2) / q * (lowF p q n).2 then (p * ((n : Int) + 2) / q, (n : Int) + 2) else lowF p q n
def upF (p q : Int) : Nat → Int × Int
  | 0 => (-(-p / q), 1)
  | n + 1 => if -(-p * ((n : Int) + 2) / q) * (upF p q n).2 < (upF p q n).1 * ((n : Int) + 2) then (-(-p * ((n : Int) + 2) / q), (n : Int) + 2) else upF p q n

theorem low_ok {p q : Int} : ∀ n : Nat, let r := lowF p q n
    (1 ≤ r.2 ∧ r.2 ≤ (n : Int) + 1) ∧ r.1 = p * r.2 / q ∧ ∀ d : Int, 1 ≤ d → d ≤ (n : Int) + 1 → p * d / q * r.2 ≤ r.1 * d ∧ (d < r.2 → p * d / q * r.2 < r.1 * d)
  | 0 => by
    refine ⟨⟨Int.le_refl _, by show (1 : Int) ≤ _; omega⟩, by show p / q = p * 1 / q; rw [Int.mul_one], fun d h1 h2 => ?_⟩
    have : d = 1 := by omega
    subst this
    show p * 1 / q * 1 ≤ p / q * 1 ∧ ((1 : Int) < 1 → _)
    rw [Int.mul_one p]
    exact ⟨Int.le_refl _, fun h => absurd h (by omega)⟩
  | n + 1 => by
    obtain ⟨⟨i1, i2⟩, i3, i4⟩ := low_ok (p := p) (q := q) n
    generalize e : lowF p q n = r at i1 i2 i3 i4
    unfold lowF
    rw [e]
    dsimp only
    by_cases h : r.1 * ((n : Int) + 2) < p * ((n : Int) + 2) / q * r.2
    · rw [if_pos h]
      refine ⟨⟨by show (1 : Int) ≤ (n : Int) + 2; omega, by show (n : Int) + 2 ≤ _; omega⟩, rfl, fun d h1 h2 => ?_⟩
      show p * d / q * ((n : Int) + 2) ≤ p * ((n : Int) + 2) / q * d ∧ (d < (n : Int) + 2 → _ * ((n : Int) + 2) < p * ((n : Int) + 2) / q * d)
      by_cases hd : d = (n : Int) + 2
      · subst hd
        exact ⟨Int.le_refl _, fun h => absurd h (by omega)⟩
      · have st : p * d / q * ((n : Int) + 2) < p * ((n : Int) + 2) / q * d := by
          have a1 := (i4 d h1 (by omega)).1
          have a2 : p * d / q * r.2 * ((n : Int) + 2) ≤ r.1 * d * ((n : Int) + 2) := Int.mul_le_mul_of_nonneg_right a1 (by omega)
          have a3 : r.1 * ((n : Int) + 2) * d < p * ((n : Int) + 2) / q * r.2 * d := Int.mul_lt_mul_of_pos_right h (by omega)
          have a4 : p * d / q * ((n : Int) + 2) * r.2 < p * ((n : Int) + 2) / q * d * r.2 := by
            have e1 : p * d / q * ((n : Int) + 2) * r.2 = p * d / q * r.2 * ((n : Int) + 2) := Int.mul_right_comm _ _ _
            have e2 : p * ((n : Int) + 2) / q * d * r.2 = p * ((n : Int) + 2) / q * r.2 * d := Int.mul_right_comm _ _ _
            have e3 : r.1 * d * ((n : Int) + 2) = r.1 * ((n : Int) + 2) * d := Int.mul_right_comm _ _ _
            rw [e1, e2]
            rw [e3] at a2
            omega
          exact Int.lt_of_mul_lt_mul_right a4 (by omega)
        exact ⟨Int.le_of_lt st, fun _ => st⟩
    · rw [if_neg h]
      refine ⟨⟨i1, by have : ((n + 1 : Nat) : Int) = (n : Int) + 1 := rfl; omega⟩, i3, fun d h1 h2 => ?_⟩
      by_cases hd : d = (n : Int) + 2
      · subst hd
        exact ⟨by omega, fun h => by omega⟩
      · exact i4 d h1 (by have : ((n + 1 : Nat) : Int) = (n : Int) + 1 := rfl; omega)
theorem up_ok {p q : Int} : ∀ n : Nat, let r := upF p q n
    (1 ≤ r.2 ∧ r.2 ≤ (n : Int) + 1) ∧ r.1 = -(-p * r.2 / q) ∧ ∀ d : Int, 1 ≤ d → d ≤ (n : Int) + 1 → r.1 * d ≤ -(-p * d / q) * r.2 ∧ (d < r.2 → r.1 * d < -(-p * d / q) * r.2)
  | 0 => by
    refine ⟨⟨Int.le_refl _, by show (1 : Int) ≤ _; omega⟩, by show -(-p / q) = -(-p * 1 / q); rw [Int.mul_one], fun d h1 h2 => ?_⟩
    have : d = 1 := by omega
    subst this
    show -(-p / q) * 1 ≤ -(-p * 1 / q) * 1 ∧ ((1 : Int) < 1 → _)
    rw [Int.mul_one (-p)]
    exact ⟨Int.le_refl _, fun h => absurd h (by omega)⟩
  | n + 1 => by
    obtain ⟨⟨i1, i2⟩, i3, i4⟩ := up_ok (p := p) (q := q) n
    generalize e : upF p q n = r at i1 i2 i3 i4
    unfold upF
    rw [e]
    dsimp only
    by_cases h : -(-p * ((n : Int) + 2) / q) * r.2 < r.1 * ((n : Int) + 2)
    · rw [if_pos h]
      refine ⟨⟨by show (1 : Int) ≤ (n : Int) + 2; omega, by show (n : Int) + 2 ≤ _; omega⟩, rfl, fun d h1 h2 => ?_⟩
      show -(-p * ((n : Int) + 2) / q) * d ≤ -(-p * d / q) * ((n : Int) + 2) ∧ (d < (n : Int) + 2 → -(-p * ((n : Int) + 2) / q) * d < _ * ((n : Int) + 2))
      by_cases hd : d = (n : Int) + 2
      · subst hd
        exact ⟨Int.le_refl _, fun h => absurd h (by omega)⟩
      · have st : -(-p * ((n : Int) + 2) / q) * d < -(-p * d / q) * ((n : Int) + 2) := by
          have a1 := (i4 d h1 (by omega)).1
          have a2 : r.1 * d * ((n : Int) + 2) ≤ -(-p * d / q) * r.2 * ((n : Int) + 2) := Int.mul_le_mul_of_nonneg_right a1 (by omega)
          have a3 : -(-p * ((n : Int) + 2) / q) * r.2 * d < r.1 * ((n : Int) + 2) * d := Int.mul_lt_mul_of_pos_right h (by omega)
          have a4 : -(-p * ((n : Int) + 2) / q) * d * r.2 < -(-p * d / q) * ((n : Int) + 2) * r.2 := by
            have e1 : -(-p * ((n : Int) + 2) / q) * d * r.2 = -(-p * ((n : Int) + 2) / q) * r.2 * d := Int.mul_right_comm _ _ _
            have e2 : -(-p * d / q) * ((n : Int) + 2) * r.2 = -(-p * d / q) * r.2 * ((n : Int) + 2) := Int.mul_right_comm _ _ _
            have e3 : r.1 * d * ((n : Int) + 2) = r.1 * ((n : Int) + 2) * d := Int.mul_right_comm _ _ _
            rw [e1, e2]
            rw [e3] at a2
            omega
          exact Int.lt_of_mul_lt_mul_right a4 (by omega)
        exact ⟨Int.le_of_lt st, fun _ => st⟩
    · rw [if_neg h]
      refine ⟨⟨i1, by have : ((n + 1 : Nat) : Int) = (n : Int) + 1 := rfl; omega⟩, i3, fun d h1 h2 => ?_⟩
      by_cases hd : d = (n : Int) + 2
      · subst hd
        exact ⟨by omega, fun h => by omega⟩
      · exact i4 d h1 (by have : ((n + 1 : Nat) : Int) = (n : Int) + 1 := rfl; omega)

theorem bez : ∀ (m n : Nat), ∃ u v : Int, u * m + v * n = (Nat.gcd m n : Nat) := by
  intro m n
  induction m, n using Nat.gcd.induction with
  | H0 n => exact ⟨0, 1, by rw [Nat.gcd_zero_left]; omega⟩
  | H1 m n hm ih =>
    obtain ⟨u, v, h⟩ := ih
    refine ⟨v - u * (n / m : Nat), u, ?_⟩
    rw [Nat.gcd_rec, ← h]
    have e : ((n % m : Nat) : Int) = n - m * (n / m : Nat) := by
      have := Nat.div_add_mod n m
      have h2 : (n : Int) = ((m * (n / m) + n % m : Nat) : Int) := by rw [this]
      rw [Int.natCast_add, Int.natCast_mul] at h2
      omega
    rw [e, Int.sub_mul, Int.mul_sub]
    have e2 : u * ((n / m : Nat) : Int) * (m : Int) = u * ((m : Int) * ((n / m : Nat) : Int)) := by rw [Int.mul_assoc, Int.mul_comm ((n / m : Nat) : Int)]
    rw [e2]
    omega
theorem div_le' {a b q : Int} (hq : 0 < q) : a ≤ b / q ↔ a * q ≤ b := Int.le_ediv_iff_mul_le hq
/-- the neighbours: one fraction, or with the determinant 1 -/
theorem near {p q : Int} (hp : 0 < p) (hq : 0 < q) (n : Nat) : (lowF p q n = upF p q n ∧ (lowF p q n).1 * q = p * (lowF p q n).2) ∨ (lowF p q n ≠ upF p q n ∧ (upF p q n).1 * (lowF p q n).2 - (lowF p q n).1 * (upF p q n).2 = 1) := by
  obtain ⟨⟨l1, l2⟩, l3, l4⟩ := low_ok (p := p) (q := q) n
  obtain ⟨⟨u1, u2⟩, u3, u4⟩ := up_ok (p := p) (q := q) n
  generalize hB : (n : Int) + 1 = B at l2 l4 u2 u4
  generalize eL : lowF p q n = L at l1 l2 l3 l4
  generalize eU : upF p q n = U at u1 u2 u3 u4
  obtain ⟨a, e⟩ := L
  obtain ⟨c, g⟩ := U
  dsimp only at l1 l2 l3 l4 u1 u2 u3 u4 ⊢
  have A1 : a * q ≤ p * e := by
    rw [l3]
    exact (div_le' hq).mp (Int.le_refl _)
  have cle : ∀ d x : Int, -(-p * d / q) ≤ x ↔ p * d ≤ x * q := fun d x => by
    constructor
    · intro h
      have := (div_le' (a := -x) (b := -p * d) hq).mp (by omega)
      rw [Int.neg_mul, Int.neg_mul] at this
      omega
    · intro h
      have := (div_le' (a := -x) (b := -p * d) hq).mpr (by rw [Int.neg_mul, Int.neg_mul]; omega)
      omega
  have A2 : p * g ≤ c * q := (cle g c).mp (by omega)
  have a0 : 0 ≤ a := by
    rw [l3]
    exact Int.ediv_nonneg (Int.mul_nonneg (by omega) (by omega)) (by omega)
  -- the lower one is in lowest terms
  have cop : Int.gcd a e = 1 := by
    have gd1 : ((Int.gcd a e : Nat) : Int) ∣ a := Int.gcd_dvd_left ..
    have gd2 : ((Int.gcd a e : Nat) : Int) ∣ e := Int.gcd_dvd_right ..
    have gpos : 0 < Int.gcd a e := Int.gcd_pos_of_ne_zero_right _ (by omega)
    generalize Int.gcd a e = t at gd1 gd2 gpos
    obtain ⟨a', ha⟩ := gd1
    obtain ⟨e', he⟩ := gd2
    by_cases ht : t = 1
    · exact ht
    · exfalso
      have ht2 : (2 : Int) ≤ t := by omega
      have e'1 : 1 ≤ e' := by
        rcases Int.lt_or_le e' 1 with h | h
        · exfalso
          have : (t : Int) * e' ≤ 0 := Int.mul_nonpos_of_nonneg_of_nonpos (by omega) (by omega)
          omega
        · exact h
      have e'2 : e' < e := by
        have : 2 * e' ≤ t * e' := Int.mul_le_mul_of_nonneg_right ht2 (by omega)
        omega
      have k := (l4 e' e'1 (by omega)).2 e'2
      have k2 : a' ≤ p * e' / q := by
        rw [div_le' hq]
        have : (t : Int) * (a' * q) ≤ t * (p * e') := by
          have e1 : (t : Int) * (a' * q) = a * q := by rw [ha, Int.mul_assoc]
          have e2 : (t : Int) * (p * e') = p * e := by rw [he, Int.mul_left_comm]
          rw [e1, e2]
          exact A1
        exact Int.le_of_mul_le_mul_left this (by omega)
      have k3 : a' * e ≤ p * e' / q * e := Int.mul_le_mul_of_nonneg_right k2 (by omega)
      have k4 : a' * e = a * e' := by rw [ha, he, Int.mul_left_comm, Int.mul_assoc]
      omega
  -- its partner with the greatest second member
  obtain ⟨x, y, hxy, y1, y2⟩ : ∃ x y : Int, x * e - a * y = 1 ∧ B - e < y ∧ y ≤ B := by
    obtain ⟨u, v, h⟩ := bez a.natAbs e.natAbs
    have h2 : u * a + v * e = 1 := by
      have e1 : (a.natAbs : Int) = a := by omega
      have e2 : (e.natAbs : Int) = e := by omega
      rw [e1, e2] at h
      have e3 : Nat.gcd a.natAbs e.natAbs = 1 := cop
      rw [e3] at h
      exact h
    have hm : (B + u) % e + (B + u) / e * e = B + u := by
      rw [Int.mul_comm ((B + u) / e)]
      exact Int.emod_add_mul_ediv (B + u) e
    have m1 := Int.emod_nonneg (B + u) (show e ≠ 0 by omega)
    have m2 := Int.emod_lt_of_pos (B + u) (show 0 < e by omega)
    refine ⟨v + (B + u) / e * a, -u + (B + u) / e * e, ?_, ?_, ?_⟩
    · rw [Int.add_mul, Int.mul_add, Int.mul_neg]
      have e1 : (B + u) / e * a * e = a * ((B + u) / e * e) := by rw [Int.mul_comm ((B + u) / e) a, Int.mul_assoc]
      rw [e1, Int.mul_comm a u]
      omega
    · omega
    · omega
  have y0 : 1 ≤ y := by omega
  have xbig : p * y < x * q := by
    rcases Int.lt_or_le (p * y) (x * q) with h | h
    · exact h
    · exfalso
      have k1 : x ≤ p * y / q := (div_le' hq).mpr h
      have k2 := (l4 y y0 y2).1
      have k3 : x * e ≤ p * y / q * e := Int.mul_le_mul_of_nonneg_right k1 (by omega)
      omega
  have wx : -(-p * y / q) ≤ x := (cle y x).mpr (by omega)
  have s0 : c * y ≤ x * g := Int.le_trans (u4 y y0 y2).1 (Int.mul_le_mul_of_nonneg_right wx (by omega))
  have id1 : (x * g - c * y) * e + (c * e - a * g) * y = g := by
    have e1 : g * (x * e - a * y) = g := by rw [hxy, Int.mul_one]
    rw [Int.mul_sub] at e1
    rw [Int.sub_mul, Int.sub_mul]
    have f1 : x * g * e = g * (x * e) := by rw [Int.mul_comm x g, Int.mul_assoc]
    have f2 : c * y * e = c * e * y := Int.mul_right_comm _ _ _
    have f3 : a * g * y = g * (a * y) := by rw [Int.mul_comm a g, Int.mul_assoc]
    rw [f1, f2, f3]
    omega
  have t0 : 0 ≤ c * e - a * g := by
    have k1 : p * g * e ≤ c * q * e := Int.mul_le_mul_of_nonneg_right A2 (by omega)
    have k2 : a * q * g ≤ p * e * g := Int.mul_le_mul_of_nonneg_right A1 (by omega)
    have k3 : a * g * q ≤ c * e * q := by
      rw [Int.mul_right_comm a g q, Int.mul_right_comm c e q]
      have : p * e * g = p * g * e := Int.mul_right_comm _ _ _
      omega
    have := Int.le_of_mul_le_mul_right k3 hq
    omega
  rcases Int.lt_or_le 0 (c * e - a * g) with tp | tz
  · right
    have t1 : c * e - a * g = 1 := by
      rcases Int.lt_or_le 0 (x * g - c * y) with sp | sz
      · exfalso
        have k1 : 1 * e ≤ (x * g - c * y) * e := Int.mul_le_mul_of_nonneg_right (by omega) (by omega)
        have k2 : 1 * y ≤ (c * e - a * g) * y := Int.mul_le_mul_of_nonneg_right (by omega) (by omega)
        omega
      · have sz0 : x * g - c * y = 0 := by omega
        rw [sz0, Int.zero_mul, Int.zero_add] at id1
        rcases Int.lt_or_le 1 (c * e - a * g) with h2 | h2
        · exfalso
          have yg : y < g := by
            have : 2 * y ≤ (c * e - a * g) * y := Int.mul_le_mul_of_nonneg_right (by omega) (by omega)
            omega
          have k1 := (u4 y y0 y2).2 yg
          have k2 : -(-p * y / q) * g ≤ x * g := Int.mul_le_mul_of_nonneg_right wx (by omega)
          omega
        · omega
    refine ⟨fun h => ?_, t1⟩
    have h1 : a = c := congrArg Prod.fst h
    have h2 : e = g := congrArg Prod.snd h
    rw [h1, h2] at t1
    omega
  · left
    have tz : c * e = a * g := by omega
    have eq1 : a * q = p * e := by
      have k1 : p * g * e ≤ c * q * e := Int.mul_le_mul_of_nonneg_right A2 (by omega)
      have k2 : p * e * g ≤ a * q * g := by
        have e1 : p * e * g = p * g * e := Int.mul_right_comm _ _ _
        have e2 : c * q * e = c * e * q := Int.mul_right_comm _ _ _
        have e3 : a * q * g = a * g * q := Int.mul_right_comm _ _ _
        rw [e1, e3, ← tz, ← e2]
        exact k1
      have := Int.le_of_mul_le_mul_right k2 (by omega)
      omega
    have eq2 : p * g = c * q := by
      have k1 : c * q * e ≤ p * g * e := by
        have e1 : c * q * e = c * e * q := Int.mul_right_comm _ _ _
        have e2 : p * g * e = p * e * g := Int.mul_right_comm _ _ _
        rw [e1, e2, tz, ← eq1]
        have : a * g * q = a * q * g := Int.mul_right_comm _ _ _
        omega
      have := Int.le_of_mul_le_mul_right k1 (by omega)
      omega
    have eg : e = g := by
      rcases Int.lt_trichotomy e g with h | h | h
      · exfalso
        have k1 := (u4 e l1 l2).2 h
        have k2 : -(-p * e / q) ≤ a := (cle e a).mpr (by omega)
        have k3 : -(-p * e / q) * g ≤ a * g := Int.mul_le_mul_of_nonneg_right k2 (by omega)
        omega
      · exact h
      · exfalso
        have k1 := (l4 g u1 u2).2 h
        have k2 : c ≤ p * g / q := (div_le' hq).mpr (by omega)
        have k3 : c * e ≤ p * g / q * e := Int.mul_le_mul_of_nonneg_right k2 (by omega)
        omega
    have ac : a = c := by
      rw [eg] at tz
      exact (Int.eq_of_mul_eq_mul_right (by omega) tz).symm
    exact ⟨by rw [eg, ac], eq1⟩
/-- the ceiling, as the law says it -/
theorem ceil_is {p q d : Int} (hq : 0 < q) : (if p * d / q * q = p * d then p * d / q else p * d / q + 1) = -(-p * d / q) := by
  have m0 : p * d % q + p * d / q * q = p * d := by
    rw [Int.mul_comm (p * d / q)]
    exact Int.emod_add_mul_ediv (p * d) q
  have m1 := Int.emod_nonneg (p * d) (show q ≠ 0 by omega)
  have m2 := Int.emod_lt_of_pos (p * d) hq
  rw [Int.neg_mul]
  generalize p * d = z at *
  by_cases h : z / q * q = z
  · rw [if_pos h]
    have : -z / q = -(z / q) := by
      have e : -z = -(z / q) * q := by rw [Int.neg_mul, h]
      conv => lhs; rw [e]
      rw [Int.mul_ediv_cancel _ (by omega)]
    omega
  · rw [if_neg h]
    have : -z / q = -(z / q) - 1 := by
      have e : -z = (-(z / q) - 1) * q + (q - z % q) := by rw [Int.sub_mul, Int.neg_mul]; omega
      conv => lhs; rw [e]
      rw [Int.add_comm, Int.add_mul_ediv_right _ _ (by omega), Int.ediv_eq_zero_of_lt (by omega) (by omega)]
      omega
    omega

/-! ### parts -/
def cf (x y : Nat) : List Nat := if h : y = 0 then [] else (x / y) :: cf y (x % y)
termination_by y
decreasing_by exact Nat.mod_lt _ (by omega)
theorem cf_zero (x : Nat) : cf x 0 = [] := by rw [cf]; rfl
theorem cf_pos {x y : Nat} (h : y ≠ 0) : cf x y = (x / y) :: cf y (x % y) := by rw [cf, dif_neg h]
def evF : List Int → Int × Int
  | [] => (1, 0)
  | a :: r => (a * (evF r).1 + (evF r).2, (evF r).1)
theorem evF_gcd : ∀ l : List Int, Int.gcd (evF l).1 (evF l).2 = 1
  | [] => by decide
  | a :: r => by
    show Int.gcd (a * (evF r).1 + (evF r).2) (evF r).1 = 1
    rw [Int.add_comm, Int.gcd_comm, Int.mul_comm, Int.gcd_add_mul_left_right, evF_gcd r]
theorem evF_cf : ∀ (y x : Nat), 0 < x + y → evF ((cf x y).map Int.ofNat) = (((x / Nat.gcd x y : Nat) : Int), ((y / Nat.gcd x y : Nat) : Int)) := by
  intro y
  induction y using Nat.strongRecOn with
  | _ y ih =>
    intro x hx
    by_cases hy : y = 0
    · subst hy
      rw [cf_zero, Nat.gcd_zero_right, Nat.div_self (by omega), Nat.zero_div]
      rfl
    · rw [cf_pos hy, List.map_cons]
      have hm : x % y < y := Nat.mod_lt _ (by omega)
      have h := ih (x % y) hm y (by omega)
      show ((Int.ofNat (x / y)) * (evF ((cf y (x % y)).map Int.ofNat)).1 + (evF ((cf y (x % y)).map Int.ofNat)).2, (evF ((cf y (x % y)).map Int.ofNat)).1) = _
      rw [h]
      have eg : Nat.gcd y (x % y) = Nat.gcd x y := by rw [Nat.gcd_comm x y, Nat.gcd_rec y x, Nat.gcd_comm]
      rw [eg]
      have g1 : Nat.gcd x y ∣ y := Nat.gcd_dvd_right ..
      have g2 : Nat.gcd x y ∣ x := Nat.gcd_dvd_left ..
      have gp : 0 < Nat.gcd x y := Nat.gcd_pos_of_pos_right _ (by omega)
      refine Prod.ext ?_ rfl
      show Int.ofNat (x / y) * ((y / Nat.gcd x y : Nat) : Int) + ((x % y / Nat.gcd x y : Nat) : Int) = _
      have key : x / y * (y / Nat.gcd x y) + x % y / Nat.gcd x y = x / Nat.gcd x y := by
        have g3 : Nat.gcd x y ∣ x % y := (Nat.dvd_mod_iff g1).mpr g2
        obtain ⟨y', hy'⟩ := g1
        obtain ⟨r', hr'⟩ := g3
        generalize Nat.gcd x y = t at *
        have e1 : y / t = y' := by rw [hy', Nat.mul_div_cancel_left _ gp]
        have e2 : x % y / t = r' := by rw [hr', Nat.mul_div_cancel_left _ gp]
        rw [e1, e2]
        have e3 := Nat.div_add_mod x y
        have e4 : x = t * (x / y * y' + r') := by
          rw [Nat.mul_add, ← hr', Nat.mul_left_comm, ← hy', Nat.mul_comm (x / y) y]
          exact e3.symm
        conv => rhs; rw [e4]
        rw [Nat.mul_div_cancel_left _ gp]
      rw [← key, Int.natCast_add, Int.natCast_mul]
      rfl
theorem cf_le : ∀ (y x : Nat), ∀ z ∈ cf x y, z ≤ max x y := by
  intro y
  induction y using Nat.strongRecOn with
  | _ y ih =>
    intro x z hz
    by_cases hy : y = 0
    · subst hy
      rw [cf_zero] at hz
      cases hz
    · rw [cf_pos hy] at hz
      have hm : x % y < y := Nat.mod_lt _ (by omega)
      rcases List.mem_cons.mp hz with rfl | hz
      · have := Nat.div_le_self x y
        omega
      · have := ih (x % y) hm y z hz
        omega
theorem cf_len : ∀ (y x : Nat), (cf x y).length ≤ y + 1 := by
  intro y
  induction y using Nat.strongRecOn with
  | _ y ih =>
    intro x
    by_cases hy : y = 0
    · subst hy
      rw [cf_zero]
      exact Nat.zero_le _
    · rw [cf_pos hy, List.length_cons]
      have hm : x % y < y := Nat.mod_lt _ (by omega)
      have := ih (x % y) hm y
      omega

/-! ### the nearest one -/
def nearF (p q : Int) (n : Nat) : Int × Int :=
  if (p * (lowF p q n).2 - (lowF p q n).1 * q) * (upF p q n).2 < ((upF p q n).1 * q - p * (upF p q n).2) * (lowF p q n).2 ∨
    ((p * (lowF p q n).2 - (lowF p q n).1 * q) * (upF p q n).2 = ((upF p q n).1 * q - p * (upF p q n).2) * (lowF p q n).2 ∧ (lowF p q n).2 ≤ (upF p q n).2) then lowF p q n else upF p q n
theorem low_le {p q : Int} (hq : 0 < q) (n : Nat) : 0 ≤ p * (lowF p q n).2 - (lowF p q n).1 * q := by
  have h := (low_ok (p := p) (q := q) n).2.1
  have := (div_le' hq).mp (Int.le_of_eq h)
  omega
theorem up_ge {p q : Int} (hq : 0 < q) (n : Nat) : p * (upF p q n).2 - (upF p q n).1 * q ≤ 0 := by
  have h := (up_ok (p := p) (q := q) n).2.1
  have := (div_le' (a := -(upF p q n).1) (b := -p * (upF p q n).2) hq).mp (Int.le_of_eq (by omega))
  rw [Int.neg_mul, Int.neg_mul] at this
  omega
theorem abs_lt_iff {p q : Int} (hq : 0 < q) (n : Nat) : (if p * (lowF p q n).2 - (lowF p q n).1 * q < 0 then -(p * (lowF p q n).2 - (lowF p q n).1 * q) else p * (lowF p q n).2 - (lowF p q n).1 * q) = p * (lowF p q n).2 - (lowF p q n).1 * q ∧
    (if p * (upF p q n).2 - (upF p q n).1 * q < 0 then -(p * (upF p q n).2 - (upF p q n).1 * q) else p * (upF p q n).2 - (upF p q n).1 * q) = (upF p q n).1 * q - p * (upF p q n).2 := by
  have h1 := low_le (p := p) hq n
  have h2 := up_ge (p := p) hq n
  constructor
  · rw [if_neg (by omega)]
  · split <;> omega
theorem less_lu {p q : Int} (hq : 0 < q) (n : Nat) : (if p * (lowF p q n).2 - (lowF p q n).1 * q < 0 then -(p * (lowF p q n).2 - (lowF p q n).1 * q) else p * (lowF p q n).2 - (lowF p q n).1 * q) * (q * (upF p q n).2) <
    (if p * (upF p q n).2 - (upF p q n).1 * q < 0 then -(p * (upF p q n).2 - (upF p q n).1 * q) else p * (upF p q n).2 - (upF p q n).1 * q) * (q * (lowF p q n).2) ↔
    (p * (lowF p q n).2 - (lowF p q n).1 * q) * (upF p q n).2 < ((upF p q n).1 * q - p * (upF p q n).2) * (lowF p q n).2 := by
  rw [(abs_lt_iff hq n).1, (abs_lt_iff hq n).2, Int.mul_left_comm, Int.mul_left_comm _ q]
  exact Int.mul_lt_mul_left hq
theorem less_ul {p q : Int} (hq : 0 < q) (n : Nat) : (if p * (upF p q n).2 - (upF p q n).1 * q < 0 then -(p * (upF p q n).2 - (upF p q n).1 * q) else p * (upF p q n).2 - (upF p q n).1 * q) * (q * (lowF p q n).2) <
    (if p * (lowF p q n).2 - (lowF p q n).1 * q < 0 then -(p * (lowF p q n).2 - (lowF p q n).1 * q) else p * (lowF p q n).2 - (lowF p q n).1 * q) * (q * (upF p q n).2) ↔
    ((upF p q n).1 * q - p * (upF p q n).2) * (lowF p q n).2 < (p * (lowF p q n).2 - (lowF p q n).1 * q) * (upF p q n).2 := by
  rw [(abs_lt_iff hq n).1, (abs_lt_iff hq n).2, Int.mul_left_comm, Int.mul_left_comm _ q]
  exact Int.mul_lt_mul_left hq
section
variable {p q : Int} {n : Nat} (hq : 0 < q) (hp : 0 < p)
include hq hp
theorem nearF_low (h : (if p * (lowF p q n).2 - (lowF p q n).1 * q < 0 then -(p * (lowF p q n).2 - (lowF p q n).1 * q) else p * (lowF p q n).2 - (lowF p q n).1 * q) * (q * (upF p q n).2) <
    (if p * (upF p q n).2 - (upF p q n).1 * q < 0 then -(p * (upF p q n).2 - (upF p q n).1 * q) else p * (upF p q n).2 - (upF p q n).1 * q) * (q * (lowF p q n).2)) : nearF p q n = lowF p q n := if_pos (.inl ((less_lu hq n).mp h))
theorem nearF_up (h : (if p * (upF p q n).2 - (upF p q n).1 * q < 0 then -(p * (upF p q n).2 - (upF p q n).1 * q) else p * (upF p q n).2 - (upF p q n).1 * q) * (q * (lowF p q n).2) <
    (if p * (lowF p q n).2 - (lowF p q n).1 * q < 0 then -(p * (lowF p q n).2 - (lowF p q n).1 * q) else p * (lowF p q n).2 - (lowF p q n).1 * q) * (q * (upF p q n).2)) : nearF p q n = upF p q n := by
  have := (less_ul hq n).mp h
  exact if_neg fun z => by omega
theorem nearF_eq1 (h : ¬ (if p * (lowF p q n).2 - (lowF p q n).1 * q < 0 then -(p * (lowF p q n).2 - (lowF p q n).1 * q) else p * (lowF p q n).2 - (lowF p q n).1 * q) * (q * (upF p q n).2) <
    (if p * (upF p q n).2 - (upF p q n).1 * q < 0 then -(p * (upF p q n).2 - (upF p q n).1 * q) else p * (upF p q n).2 - (upF p q n).1 * q) * (q * (lowF p q n).2))
    (h2 : ¬ (if p * (upF p q n).2 - (upF p q n).1 * q < 0 then -(p * (upF p q n).2 - (upF p q n).1 * q) else p * (upF p q n).2 - (upF p q n).1 * q) * (q * (lowF p q n).2) <
    (if p * (lowF p q n).2 - (lowF p q n).1 * q < 0 then -(p * (lowF p q n).2 - (lowF p q n).1 * q) else p * (lowF p q n).2 - (lowF p q n).1 * q) * (q * (upF p q n).2)) (h3 : (lowF p q n).2 ≤ (upF p q n).2) : nearF p q n = lowF p q n := by
  have a1 := Int.not_lt.mp fun z => h ((less_lu hq n).mpr z)
  have a2 := Int.not_lt.mp fun z => h2 ((less_ul hq n).mpr z)
  exact if_pos (.inr ⟨by omega, h3⟩)
theorem nearF_eq2 (h : ¬ (if p * (lowF p q n).2 - (lowF p q n).1 * q < 0 then -(p * (lowF p q n).2 - (lowF p q n).1 * q) else p * (lowF p q n).2 - (lowF p q n).1 * q) * (q * (upF p q n).2) <
    (if p * (upF p q n).2 - (upF p q n).1 * q < 0 then -(p * (upF p q n).2 - (upF p q n).1 * q) else p * (upF p q n).2 - (upF p q n).1 * q) * (q * (lowF p q n).2))
    (h2 : ¬ (if p * (upF p q n).2 - (upF p q n).1 * q < 0 then -(p * (upF p q n).2 - (upF p q n).1 * q) else p * (upF p q n).2 - (upF p q n).1 * q) * (q * (lowF p q n).2) <
    (if p * (lowF p q n).2 - (lowF p q n).1 * q < 0 then -(p * (lowF p q n).2 - (lowF p q n).1 * q) else p * (lowF p q n).2 - (lowF p q n).1 * q) * (q * (upF p q n).2)) (h3 : ¬ (lowF p q n).2 ≤ (upF p q n).2) : nearF p q n = upF p q n := by
  have a1 := Int.not_lt.mp fun z => h ((less_lu hq n).mpr z)
  exact if_neg fun z => by omega
end

theorem cf_len2 : ∀ (k x y : Nat), y < 2 ^ k → (cf x y).length ≤ 2 * k + 1 := by
  intro k
  induction k with
  | zero =>
    intro x y h
    have : y = 0 := by omega
    subst this
    rw [cf_zero]
    exact Nat.zero_le _
  | succ k ih =>
    intro x y h
    by_cases hy : y = 0
    · subst hy
      rw [cf_zero]
      exact Nat.zero_le _
    · rw [cf_pos hy, List.length_cons]
      by_cases hr : x % y = 0
      · rw [hr, cf_zero]
        simp
      · rw [cf_pos hr, List.length_cons]
        have h1 : x % y < y := Nat.mod_lt _ (by omega)
        have h2 : y % (x % y) < x % y := Nat.mod_lt _ (by omega)
        have h3 : x % y * (y / (x % y)) + y % (x % y) = y := Nat.div_add_mod y (x % y)
        have h4 : 1 ≤ y / (x % y) := Nat.div_pos (by omega) (by omega)
        have h5 : x % y * 1 ≤ x % y * (y / (x % y)) := Nat.mul_le_mul_left _ h4
        have h6 : y % (x % y) < 2 ^ k := by rw [Nat.pow_succ] at h; omega
        have := ih (x % y) (y % (x % y)) h6
        omega
end M80

namespace L_k80
open PySem L2 G RT
def topS (i : Nat) : Stmt := PySem.Challenge.pw_semigrove_k80_whole_near_fractions.main.body.getD i (.Pass ⟨0, 0, 0, 0⟩)
structure Bt (mg : Str → Option Value) : Prop where
  b_range : mg "range" = none
  b_abs : mg "abs" = none
  b_reversed : mg "reversed" = none
  b_isinstance : mg "isinstance" = none
  b_int : mg "int" = none
  b_tuple : mg "tuple" = none
  b_list : mg "list" = none
  b_bool : mg "bool" = none
  b_str : mg "str" = none
  b_len : mg "len" = none
  g_gcd : mg "gcd" = some (.builtin "math.gcd")
local macro_rules | `(tactic| walk_at "mem") => `(tactic| first | exact List.Mem.head _ | exact List.Mem.tail _ (List.Mem.head _) | exact List.Mem.tail _ (List.Mem.tail _ (List.Mem.head _)) | exact List.Mem.tail _ (List.Mem.tail _ (List.Mem.tail _ (List.Mem.head _))) | assumption | fail)
local macro_rules | `(tactic| walk_at "mul") => `(tactic| first | exact Or.inl ⟨by omega, by omega⟩ | exact Or.inr ⟨by omega, by omega⟩ | assumption | fail)
local macro_rules | `(tactic| walk_at "div") => `(tactic| first | exact G.divL (by omega) | assumption | fail)
local macro_rules | `(tactic| walk_at "fz") => `(tactic| first | exact FrzAll.nil | exact fz_d FrzAll.nil | exact fz_d (fz_d FrzAll.nil) | exact fz_d (fz_d (fz_d FrzAll.nil)) | exact fz_d (fz_d (fz_d (fz_d FrzAll.nil))) | exact fz_d (fz_d (fz_d (fz_d (fz_d FrzAll.nil)))) | exact fz_d (fz_d (fz_d (fz_d (fz_d (fz_d FrzAll.nil))))) | exact fz_d (fz_d (fz_d (fz_d (fz_d (fz_d (fz_d FrzAll.nil)))))) | exact fz_d (fz_d (fz_d (fz_d (fz_d (fz_d (fz_d (fz_d FrzAll.nil))))))) | exact fz_d (fz_d (fz_d (fz_d (fz_d (fz_d (fz_d (fz_d (fz_d FrzAll.nil)))))))) | exact fz_d (fz_d (fz_d (fz_d (fz_d (fz_d (fz_d (fz_d (fz_d (fz_d FrzAll.nil))))))))) | exact fz_d (fz_d (fz_d (fz_d (fz_d (fz_d (fz_d (fz_d (fz_d (fz_d (fz_d FrzAll.nil)))))))))) | exact fz_d (fz_d (fz_d (fz_d (fz_d (fz_d (fz_d (fz_d (fz_d (fz_d (fz_d (fz_d FrzAll.nil))))))))))) | exact fz_d (fz_d (fz_d (fz_d (fz_d (fz_d (fz_d (fz_d (fz_d (fz_d (fz_d (fz_d (fz_d FrzAll.nil)))))))))))) | exact fz_d (fz_d (fz_d (fz_d (fz_d (fz_d (fz_d (fz_d (fz_d (fz_d (fz_d (fz_d (fz_d (fz_d FrzAll.nil))))))))))))) | fail)
local macro_rules | `(tactic| walk_at "g0") => `(tactic| first
  | ((with_reducible refine tj_var (x := ?x) ?hv ?_); (case hv => exact rfl))
  | with_reducible refine tj_int ?_
  | with_reducible refine tj_op ?_
  | ((with_reducible refine ro_ixT (d := ?d) ?hx ?_); (case hx => exact rfl))
  | ((with_reducible refine ro_ixM (xs := ?xs) (x := ?x) ?hm ?hx ?_); (case hm => walk_at "mem"); (case hx => exact rfl))
  | with_reducible refine st_asg ?_
  | ((with_reducible refine tg_name ?_); (dsimp only [List.set]))
  | with_reducible refine tl_nil ?_
  | with_reducible refine tl_cons ?_
  | with_reducible refine ro_addI ?_
  | with_reducible refine ro_sub ?_
  | ((with_reducible refine ro_mul ?hc ?_); (case hc => walk_at "mul"))
  | ((with_reducible refine ro_mod ?hc ?_); (case hc => first | decide | omega))
  | ((with_reducible refine ro_div ?hc ?_); (case hc => walk_at "div"))
  | with_reducible refine tj_cb ?_
  | with_reducible refine tj_tup ?_
  | ((with_reducible refine tup_go (ds := ?ds) (F2 := ?F2) ?fz ?hz ?_); (case fz => walk_at "fz"); (case hz => simp))
  | ((with_reducible refine ro_pow ?hc ?_); (case hc => exact ⟨by decide, by decide, by decide⟩); (try simp only [Int.reduceToNat, Int.reducePow]))
  | with_reducible refine tj_call ?_
  | with_reducible refine st_ret ?_
  | with_reducible refine st_if ?_
  | with_reducible refine tb_test ?_
  | with_reducible refine tb_B ?_
  | with_reducible refine ro_lt ?_
  | with_reducible refine ro_le ?_
  | with_reducible refine ro_gt ?_
  | with_reducible refine ro_ge ?_
  | with_reducible refine ro_eqI ?_
  | with_reducible refine ro_neI ?_
  | with_reducible refine rc_int ?_
  | with_reducible refine rc_isiTup ?_
  | with_reducible refine rc_isiLst ?_
  | with_reducible refine rc_isiInt ?_
  | with_reducible refine rc_isiBl ?_
  | with_reducible refine rc_isiStr ?_
  | with_reducible refine ro_eqB ?_
  | with_reducible refine ro_neB ?_
  | with_reducible refine ro_isN ?_
  | with_reducible refine ro_notN ?_
  | with_reducible refine tj_andV ?_
  | with_reducible refine tj_orV ?_
  | with_reducible refine tj_notV ?_
  | with_reducible refine rc_abs ?_
  | with_reducible refine rc_gcd ?_
  | with_reducible refine rc_lenT ?_
  | with_reducible refine rc_lenL ?_
  | ((with_reducible refine rc_lenM (xs := ?xs) ?hm ?_); (case hm => walk_at "mem"))
  | with_reducible refine tb_and ?_
  | with_reducible refine tb_or ?_
  | with_reducible refine tb_not ?_
  | with_reducible refine tj_un ?_
  | with_reducible refine ru_neg ?_
  | with_reducible refine tj_bl ?_
  | with_reducible refine tj_non ?_
  | with_reducible refine tj_str ?_
  | with_reducible refine tj_ty ?_
  | with_reducible refine tj_if ?_
  | with_reducible refine st_par ?_
  | with_reducible refine st_next ?_
  | with_reducible refine st_break ?_
  | with_reducible refine st_cont ?_
  | with_reducible refine st_drop ?_
  | with_reducible refine tg_tup2 ?_
  | with_reducible refine tg_tup3 ?_
  | with_reducible refine tb_yes ?_
  | ((with_reducible refine st_aug (a := ?a) ?hx ?_); (case hx => exact rfl))
  | ((with_reducible refine tg_setL ?_))
  | ((with_reducible refine set_go (xs := ?xs) (j := ?j) ?hm ?hx ?_); (case hm => walk_at "mem"); (case hx => exact rfl); (try simp only [setF_one, Int.reduceToNat]); (try dsimp only [List.set]))
  | ((with_reducible refine tj_append ?_))
  | ((with_reducible refine app_go (xs := ?xs) ?hm ?_); (case hm => walk_at "mem"))
  | ((with_reducible refine ⟨_, rfl, ?_⟩))
  | ((with_reducible refine ⟨_, _, rfl, ?_⟩); (try dsimp only [List.set]))
  | ((with_reducible refine ⟨fun hc => ?_, fun hc => ?_⟩) <;> (try simp only [decide_eq_true_eq, decide_eq_false_iff_not, Bool.not_eq_true, Bool.not_eq_false, Bool.not_eq_eq_eq_not, Bool.not_true, Bool.not_false, beq_iff_eq, bne_iff_ne, ne_eq, beq_eq_false_iff_ne, bne_eq_false_iff_eq, Bool.false_eq_true, Bool.true_eq_false, reduceCtorEq, Bool.bne_false, Bool.bne_true, Bool.true_bne, Bool.false_bne, beq_true, beq_false, Bool.true_beq, Bool.false_beq, not_false_eq_true, not_true_eq_false, isTup, isLst, isInt, isBl, isStr, isN] at hc))
  | dsimp only
  | fail)
local macro_rules | `(tactic| walk_at "g1") => `(tactic| first | with_reducible refine st_seq ?_ | walk_at "g0" | fail)
section
variable {P : Program} {w : World} {K : PySem.W.Frag} {mg : Str → Option Value} {base : Heap} {T : List Addr}
open M80
abbrev pr (r : Int × Int) : PyData := .tuple [.int r.1, .int r.2]
def Rng (p q b : Int) : Prop := (1 ≤ p ∧ p ≤ 1000000000000) ∧ (1 ≤ q ∧ q ≤ 1000000000000) ∧ 1 ≤ b ∧ b ≤ 1000
def c_less : Ct := ⟨2, fun xs => ∃ a b c d : Int, xs = [.d (pr (a, b)), .d (pr (c, d))] ∧ (-18446744073709551616 < b ∧ b < 18446744073709551616) ∧ (-18446744073709551616 < d ∧ d < 18446744073709551616), fun xs y F => F = [] ∧ match xs with
  | [.d (.tuple [.int a, .int b]), .d (.tuple [.int c, .int d])] => y = dB (decide (a * d < c * b))
  | _ => False⟩

abbrev s_less : Stmt := topS 2
theorem sc_less : FnScope ["one", "two"] ["one", "two"] (defScope s_less) := ⟨rfl, rfl, rfl, by decide +kernel, rfl, by decide +kernel, by decide +kernel⟩
theorem ok_less {f : Addr} {fd : FuncData} (F : Fun K "less" "less" s_less f fd) (B : Bt mg) :
    FnOk P w K mg base CX0 1 f fd ["one", "two"] (c_less.sp K T) := by
  refine ok_ct c_less F sc_less rfl fun cdv A outer s H E hr => ⟨_, (pss_one (ps_ret (pe_cmpR op_lt (pe_op op_mul (pe_ix (k_ix (K := K) rfl) (pv 0) pe_int (fun _ _ => rfl)) (pe_ix (k_ix (K := K) rfl) (pv 1) pe_int (fun _ _ => rfl))) (pe_op op_mul (pe_ix (k_ix (K := K) rfl) (pv 1) pe_int (fun _ _ => rfl)) (pe_ix (k_ix (K := K) rfl) (pv 0) pe_int (fun _ _ => rfl))) (nomark _)))), fun C xs hn hp => ?_⟩
  obtain ⟨a, b, c, d, rfl, h1, h2⟩ := hp
  change ST C _ [some (.d (pr (a, b))), some (.d (pr (c, d)))] [] _
  repeat' walk_at "g1"
  exact ends_of ⟨rfl, rfl⟩

def c_low : Ct := ⟨3, fun xs => ∃ p q b : Int, xs = [dI p, dI q, dI b] ∧ Rng p q b, fun xs y F => F = [] ∧ match xs with
  | [.d (.int p), .d (.int q), .d (.int b)] => y = .d (pr (lowF p q (b - 1).toNat))
  | _ => False⟩

abbrev s_lower_neighbour : Stmt := topS 3
theorem sc_lower_neighbour : FnScope ["p", "q", "b", "best", "d", "found"] ["p", "q", "b"] (defScope s_lower_neighbour) := ⟨rfl, rfl, rfl, by decide +kernel, rfl, by decide +kernel, by decide +kernel⟩
theorem ok_lower_neighbour {f : Addr} {fd : FuncData} (F : Fun K "lower_neighbour" "lower_neighbour" s_lower_neighbour f fd) (B : Bt mg)
    (D_less : DefOk P w K mg base 1 "less" ["one", "two"] (c_less.sp K T)) :
    FnOk P w K mg base CX0 2 f fd ["p", "q", "b"] (c_low.sp K T) := by
  refine ok_ct c_low F sc_lower_neighbour rfl fun cdv A outer s H E hr => ⟨_, (pss_cons (ps_asg (pe_tup (pa_cons (pe_op op_fdivW (pv 0) (pv 1)) (pa_cons pe_int pa_nil))) (pg_name (i := 3) sc_lower_neighbour.nd rfl (by first | exact Or.inl rfl | exact Or.inr rfl)))
      (pss_cons (ps_for PassesOwn.never rfl (pi_range2 (by rfl) B.b_range (pa_cons pe_int (pa_cons (pe_op (k_addA (K := K) rfl) (pv 2) pe_int) pa_nil))) (pg_name (i := 4) sc_lower_neighbour.nd rfl (by first | exact Or.inl rfl | exact Or.inr rfl)) (pss_cons (ps_asg (pe_tup (pa_cons (pe_op op_fdivW (pe_op op_mul (pv 0) (pv 4)) (pv 1)) (pa_cons (pv 4) pa_nil))) (pg_name (i := 5) sc_lower_neighbour.nd rfl (by first | exact Or.inl rfl | exact Or.inr rfl)))
      (pss_one (ps_if (pt_val (pe_dcall D_less hr (by rfl) (pa_cons (pv 3) (pa_cons (pv 5) pa_nil)))) (pss_one (ps_asg (pv 5) (pg_name (i := 3) sc_lower_neighbour.nd rfl (by first | exact Or.inl rfl | exact Or.inr rfl)))) pss_nil))))
      (pss_one (ps_ret (pv 3))))), fun C xs hn hp => ?_⟩
  obtain ⟨p, q, b, rfl, hr0⟩ := hp
  have hr1 := hr0
  obtain ⟨⟨p1, p2⟩, ⟨q1, q2⟩, b1, b2⟩ := hr1
  change ST C _ [some (dI p), some (dI q), some (dI b), none, none, none] [] _
  repeat' walk_at "g1"
  repeat' walk_at "g1"
  refine st_for (it_rng2 ?_)
  repeat' walk_at "g1"
  refine ⟨⟨by decide, by decide, by omega, by omega⟩, ?_⟩
  refine ⟨fun i S F => i ≤ (b - 1).toNat ∧ ∃ u v : Option SV, S = [some (dI p), some (dI q), some (dI b), some (.d (pr (lowF p q i))), u, v] ∧ F = [], ⟨by omega, _, _, rfl, rfl⟩, ?_, ?_⟩
  · rintro i y S F hi ⟨hle, u, v, rfl, rfl⟩
    obtain ⟨hi2, rfl⟩ := rg_get hi
    have ok := (low_ok (p := p) (q := q) i).1
    repeat' walk_at "g1"
    repeat' walk_at "g1"
    refine cl_ct rfl ⟨_, _, _, _, rfl, ⟨by omega, by omega⟩, by omega, by omega⟩ ?_
    rintro y F' ⟨rfl, rfl⟩ _
    dsimp only [List.nil_append]
    have ec : (2 : Int) + (i : Int) = (i : Int) + 2 := Int.add_comm _ _
    rw [ec]
    repeat' walk_at "g1"
    · rename_i hc
      have e : lowF p q (i + 1) = (p * ((i : Int) + 2) / q, (i : Int) + 2) := by
        show (if (lowF p q i).1 * ((i : Int) + 2) < p * ((i : Int) + 2) / q * (lowF p q i).2 then _ else _) = _
        rw [if_pos hc]
      rw [e]
      exact ⟨by omega, _, _, rfl, rfl⟩
    · rename_i hc
      have e : lowF p q (i + 1) = lowF p q i := by
        show (if (lowF p q i).1 * ((i : Int) + 2) < p * ((i : Int) + 2) / q * (lowF p q i).2 then _ else _) = _
        rw [if_neg hc]
      rw [e]
      exact ⟨by omega, _, _, rfl, rfl⟩
  · rintro S F ⟨hle, u, v, rfl, rfl⟩
    repeat' walk_at "g1"
    refine ends_of ⟨rfl, ?_⟩
    rw [rg_len, show (b + 1 - 2).toNat = (b - 1).toNat by omega]

def c_up : Ct := ⟨3, fun xs => ∃ p q b : Int, xs = [dI p, dI q, dI b] ∧ Rng p q b, fun xs y F => F = [] ∧ match xs with
  | [.d (.int p), .d (.int q), .d (.int b)] => y = .d (pr (upF p q (b - 1).toNat))
  | _ => False⟩

abbrev s_upper_neighbour : Stmt := topS 4
theorem sc_upper_neighbour : FnScope ["p", "q", "b", "best", "d", "found"] ["p", "q", "b"] (defScope s_upper_neighbour) := ⟨rfl, rfl, rfl, by decide +kernel, rfl, by decide +kernel, by decide +kernel⟩
theorem ok_upper_neighbour {f : Addr} {fd : FuncData} (F : Fun K "upper_neighbour" "upper_neighbour" s_upper_neighbour f fd) (B : Bt mg)
    (D_less : DefOk P w K mg base 1 "less" ["one", "two"] (c_less.sp K T)) :
    FnOk P w K mg base CX0 2 f fd ["p", "q", "b"] (c_up.sp K T) := by
  refine ok_ct c_up F sc_upper_neighbour rfl fun cdv A outer s H E hr => ⟨_, (pss_cons (ps_asg (pe_tup (pa_cons (pe_un un_neg (pe_op op_fdivW (pe_un un_neg (pv 0)) (pv 1))) (pa_cons pe_int pa_nil))) (pg_name (i := 3) sc_upper_neighbour.nd rfl (by first | exact Or.inl rfl | exact Or.inr rfl)))
      (pss_cons (ps_for PassesOwn.never rfl (pi_range2 (by rfl) B.b_range (pa_cons pe_int (pa_cons (pe_op (k_addA (K := K) rfl) (pv 2) pe_int) pa_nil))) (pg_name (i := 4) sc_upper_neighbour.nd rfl (by first | exact Or.inl rfl | exact Or.inr rfl)) (pss_cons (ps_asg (pe_tup (pa_cons (pe_un un_neg (pe_op op_fdivW (pe_op op_mul (pe_un un_neg (pv 0)) (pv 4)) (pv 1))) (pa_cons (pv 4) pa_nil))) (pg_name (i := 5) sc_upper_neighbour.nd rfl (by first | exact Or.inl rfl | exact Or.inr rfl)))
      (pss_one (ps_if (pt_val (pe_dcall D_less hr (by rfl) (pa_cons (pv 5) (pa_cons (pv 3) pa_nil)))) (pss_one (ps_asg (pv 5) (pg_name (i := 3) sc_upper_neighbour.nd rfl (by first | exact Or.inl rfl | exact Or.inr rfl)))) pss_nil))))
      (pss_one (ps_ret (pv 3))))), fun C xs hn hp => ?_⟩
  obtain ⟨p, q, b, rfl, hr0⟩ := hp
  have hr1 := hr0
  obtain ⟨⟨p1, p2⟩, ⟨q1, q2⟩, b1, b2⟩ := hr1
  change ST C _ [some (dI p), some (dI q), some (dI b), none, none, none] [] _
  repeat' walk_at "g1"
  repeat' walk_at "g1"
  refine st_for (it_rng2 ?_)
  repeat' walk_at "g1"
  refine ⟨⟨by decide, by decide, by omega, by omega⟩, ?_⟩
  refine ⟨fun i S F => i ≤ (b - 1).toNat ∧ ∃ u v : Option SV, S = [some (dI p), some (dI q), some (dI b), some (.d (pr (upF p q i))), u, v] ∧ F = [], ⟨by omega, _, _, rfl, rfl⟩, ?_, ?_⟩
  · rintro i y S F hi ⟨hle, u, v, rfl, rfl⟩
    obtain ⟨hi2, rfl⟩ := rg_get hi
    have ok := (up_ok (p := p) (q := q) i).1
    repeat' walk_at "g1"
    repeat' walk_at "g1"
    refine cl_ct rfl ⟨_, _, _, _, rfl, ⟨by omega, by omega⟩, by omega, by omega⟩ ?_
    rintro y F' ⟨rfl, rfl⟩ _
    dsimp only [List.nil_append]
    have ec : (2 : Int) + (i : Int) = (i : Int) + 2 := Int.add_comm _ _
    rw [ec]
    repeat' walk_at "g1"
    · rename_i hc
      have e : upF p q (i + 1) = (-(-p * ((i : Int) + 2) / q), (i : Int) + 2) := by
        show (if -(-p * ((i : Int) + 2) / q) * (upF p q i).2 < (upF p q i).1 * ((i : Int) + 2) then _ else _) = _
        rw [if_pos hc]
      rw [e]
      exact ⟨by omega, _, _, rfl, rfl⟩
    · rename_i hc
      have e : upF p q (i + 1) = upF p q i := by
        show (if -(-p * ((i : Int) + 2) / q) * (upF p q i).2 < (upF p q i).1 * ((i : Int) + 2) then _ else _) = _
        rw [if_neg hc]
      rw [e]
      exact ⟨by omega, _, _, rfl, rfl⟩
  · rintro S F ⟨hle, u, v, rfl, rfl⟩
    repeat' walk_at "g1"
    refine ends_of ⟨rfl, ?_⟩
    rw [rg_len, show (b + 1 - 2).toNat = (b - 1).toNat by omega]

def c_nb : Ct := ⟨3, fun xs => ∃ p q b : Int, xs = [dI p, dI q, dI b] ∧ Rng p q b, fun xs y F => F = [] ∧ match xs with
  | [.d (.int p), .d (.int q), .d (.int b)] => y = .d (.tuple [pr (lowF p q (b - 1).toNat), pr (upF p q (b - 1).toNat)])
  | _ => False⟩

abbrev s_neighbours : Stmt := topS 5
theorem sc_neighbours : FnScope ["p", "q", "b"] ["p", "q", "b"] (defScope s_neighbours) := ⟨rfl, rfl, rfl, by decide +kernel, rfl, by decide +kernel, by decide +kernel⟩
theorem ok_neighbours {f : Addr} {fd : FuncData} (F : Fun K "neighbours" "neighbours" s_neighbours f fd) (B : Bt mg)
    (D_lower_neighbour : DefOk P w K mg base 2 "lower_neighbour" ["p", "q", "b"] (c_low.sp K T))
    (D_upper_neighbour : DefOk P w K mg base 2 "upper_neighbour" ["p", "q", "b"] (c_up.sp K T)) :
    FnOk P w K mg base CX0 3 f fd ["p", "q", "b"] (c_nb.sp K T) := by
  refine ok_ct c_nb F sc_neighbours rfl fun cdv A outer s H E hr => ⟨_, (pss_one (ps_ret (pe_tup (pa_cons (pe_dcall D_lower_neighbour hr (by rfl) (pa_cons (pv 0) (pa_cons (pv 1) (pa_cons (pv 2) pa_nil)))) (pa_cons (pe_dcall D_upper_neighbour hr (by rfl) (pa_cons (pv 0) (pa_cons (pv 1) (pa_cons (pv 2) pa_nil)))) pa_nil))))), fun C xs hn hp => ?_⟩
  obtain ⟨p, q, b, rfl, hr0⟩ := hp
  change ST C _ [some (dI p), some (dI q), some (dI b)] [] _
  repeat' walk_at "g1"
  repeat' walk_at "g1"
  refine cl_ct rfl ⟨_, _, _, rfl, hr0⟩ ?_
  rintro y F' ⟨rfl, rfl⟩ _
  dsimp only [List.nil_append]
  repeat' walk_at "g1"
  refine cl_ct rfl ⟨_, _, _, rfl, hr0⟩ ?_
  rintro y F' ⟨rfl, rfl⟩ _
  dsimp only [List.nil_append]
  repeat' walk_at "g1"
  exact ends_of ⟨rfl, rfl⟩

def c_apart : Ct := ⟨3, fun xs => ∃ p q a b : Int, xs = [dI p, dI q, .d (pr (a, b))] ∧ (1 ≤ p ∧ p ≤ 1000000000000) ∧ (1 ≤ q ∧ q ≤ 1000000000000), fun xs y F => F = [] ∧ match xs with
  | [.d (.int p), .d (.int q), .d (.tuple [.int a, .int b])] => y = .d (pr (if p * b - a * q < 0 then -(p * b - a * q) else p * b - a * q, q * b))
  | _ => False⟩

abbrev s_apart : Stmt := topS 6
theorem sc_apart : FnScope ["p", "q", "one"] ["p", "q", "one"] (defScope s_apart) := ⟨rfl, rfl, rfl, by decide +kernel, rfl, by decide +kernel, by decide +kernel⟩
theorem ok_apart {f : Addr} {fd : FuncData} (F : Fun K "apart" "apart" s_apart f fd) (B : Bt mg) :
    FnOk P w K mg base CX0 1 f fd ["p", "q", "one"] (c_apart.sp K T) := by
  refine ok_ct c_apart F sc_apart rfl fun cdv A outer s H E hr => ⟨_, (pss_one (ps_ret (pe_tup (pa_cons (pe_callB call_abs (by rfl) B.b_abs (by decide +kernel) (pa_cons (pe_op op_sub (pe_op op_mul (pv 0) (pe_ix (k_ix (K := K) rfl) (pv 2) pe_int (fun _ _ => rfl))) (pe_op op_mul (pe_ix (k_ix (K := K) rfl) (pv 2) pe_int (fun _ _ => rfl)) (pv 1))) pa_nil)) (pa_cons (pe_op op_mul (pv 1) (pe_ix (k_ix (K := K) rfl) (pv 2) pe_int (fun _ _ => rfl))) pa_nil))))), fun C xs hn hp => ?_⟩
  obtain ⟨p, q, a, b, rfl, h1, h2⟩ := hp
  change ST C _ [some (dI p), some (dI q), some (.d (pr (a, b)))] [] _
  repeat' walk_at "g1"
  exact ends_of ⟨rfl, rfl⟩

def c_nearest : Ct := ⟨3, fun xs => ∃ p q b : Int, xs = [dI p, dI q, dI b] ∧ Rng p q b, fun xs y F => F = [] ∧ match xs with
  | [.d (.int p), .d (.int q), .d (.int b)] => y = .d (pr (nearF p q (b - 1).toNat))
  | _ => False⟩

abbrev s_nearest : Stmt := topS 7
theorem sc_nearest : FnScope ["p", "q", "b", "low", "high", "mine", "yours"] ["p", "q", "b"] (defScope s_nearest) := ⟨rfl, rfl, rfl, by decide +kernel, rfl, by decide +kernel, by decide +kernel⟩
theorem ok_nearest {f : Addr} {fd : FuncData} (F : Fun K "nearest" "nearest" s_nearest f fd) (B : Bt mg)
    (D_neighbours : DefOk P w K mg base 3 "neighbours" ["p", "q", "b"] (c_nb.sp K T))
    (D_apart : DefOk P w K mg base 1 "apart" ["p", "q", "one"] (c_apart.sp K T))
    (D_less : DefOk P w K mg base 1 "less" ["one", "two"] (c_less.sp K T)) :
    FnOk P w K mg base CX0 4 f fd ["p", "q", "b"] (c_nearest.sp K T) := by
  refine ok_ct c_nearest F sc_nearest rfl fun cdv A outer s H E hr => ⟨_, (pss_cons (ps_asg (pe_dcall D_neighbours hr (by rfl) (pa_cons (pv 0) (pa_cons (pv 1) (pa_cons (pv 2) pa_nil)))) (k_gtup (K := K) (n := 2) rfl rfl (pgs_cons (pg_name (i := 3) sc_nearest.nd rfl (by first | exact Or.inl rfl | exact Or.inr rfl)) (pgs_cons (pg_name (i := 4) sc_nearest.nd rfl (by first | exact Or.inl rfl | exact Or.inr rfl)) pgs_nil))))
      (pss_cons (ps_asg (pe_dcall D_apart (hr.mono (by decide)) (by rfl) (pa_cons (pv 0) (pa_cons (pv 1) (pa_cons (pv 3) pa_nil)))) (pg_name (i := 5) sc_nearest.nd rfl (by first | exact Or.inl rfl | exact Or.inr rfl)))
      (pss_cons (ps_asg (pe_dcall D_apart (hr.mono (by decide)) (by rfl) (pa_cons (pv 0) (pa_cons (pv 1) (pa_cons (pv 4) pa_nil)))) (pg_name (i := 6) sc_nearest.nd rfl (by first | exact Or.inl rfl | exact Or.inr rfl)))
      (pss_cons (ps_if (pt_val (pe_dcall D_less (hr.mono (by decide)) (by rfl) (pa_cons (pv 5) (pa_cons (pv 6) pa_nil)))) (pss_one (ps_ret (pv 3))) pss_nil)
      (pss_cons (ps_if (pt_val (pe_dcall D_less (hr.mono (by decide)) (by rfl) (pa_cons (pv 6) (pa_cons (pv 5) pa_nil)))) (pss_one (ps_ret (pv 4))) pss_nil)
      (pss_one (ps_ret (pe_ifExp (pt_cmpR op_le (pe_ix (k_ix (K := K) rfl) (pv 3) pe_int (fun _ _ => rfl)) (pe_ix (k_ix (K := K) rfl) (pv 4) pe_int (fun _ _ => rfl)) (nomark _)) (pv 3) (pv 4))))))))), fun C xs hn hp => ?_⟩
  obtain ⟨p, q, b, rfl, hr0⟩ := hp
  have hr1 := hr0
  obtain ⟨⟨p1, p2⟩, ⟨q1, q2⟩, b1, b2⟩ := hr1
  obtain ⟨⟨l1, l2⟩, _, _⟩ := low_ok (p := p) (q := q) (b - 1).toNat
  obtain ⟨⟨u1, u2⟩, _, _⟩ := up_ok (p := p) (q := q) (b - 1).toNat
  have ql : q * (lowF p q (b - 1).toNat).2 ≤ 1000000000000 * 1000 := Int.mul_le_mul q2 (by omega) (by omega) (by omega)
  have qu : q * (upF p q (b - 1).toNat).2 ≤ 1000000000000 * 1000 := Int.mul_le_mul q2 (by omega) (by omega) (by omega)
  have ql0 : 0 ≤ q * (lowF p q (b - 1).toNat).2 := Int.mul_nonneg (by omega) (by omega)
  have qu0 : 0 ≤ q * (upF p q (b - 1).toNat).2 := Int.mul_nonneg (by omega) (by omega)
  change ST C _ [some (dI p), some (dI q), some (dI b), none, none, none, none] [] _
  repeat' walk_at "g1"
  refine cl_ct rfl ⟨_, _, _, rfl, hr0⟩ ?_
  rintro y F' ⟨rfl, rfl⟩ _
  dsimp only [List.nil_append]
  repeat' walk_at "g1"
  refine cl_ct rfl ⟨_, _, _, _, rfl, ⟨p1, p2⟩, q1, q2⟩ ?_
  rintro y F' ⟨rfl, rfl⟩ _
  dsimp only [List.nil_append]
  repeat' walk_at "g1"
  refine cl_ct rfl ⟨_, _, _, _, rfl, ⟨p1, p2⟩, q1, q2⟩ ?_
  rintro y F' ⟨rfl, rfl⟩ _
  dsimp only [List.nil_append]
  repeat' walk_at "g1"
  refine cl_ct rfl ⟨_, _, _, _, rfl, ⟨by omega, by omega⟩, by omega, by omega⟩ ?_
  rintro y F' ⟨rfl, rfl⟩ _
  dsimp only [List.nil_append]
  repeat' walk_at "g1"
  · rename_i h1
    exact ends_of ⟨rfl, by show _ = SV.d (pr (nearF p q (b - 1).toNat)); rw [nearF_low (by omega) (by omega) h1]⟩
  rename_i h1
  refine cl_ct rfl ⟨_, _, _, _, rfl, ⟨by omega, by omega⟩, by omega, by omega⟩ ?_
  rintro y F' ⟨rfl, rfl⟩ _
  dsimp only [List.nil_append]
  repeat' walk_at "g1"
  · rename_i h2
    exact ends_of ⟨rfl, by show _ = SV.d (pr (nearF p q (b - 1).toNat)); rw [nearF_up (by omega) (by omega) h2]⟩
  · rename_i h2 h3
    exact ends_of ⟨rfl, by show _ = SV.d (pr (nearF p q (b - 1).toNat)); rw [nearF_eq1 (by omega) (by omega) h1 h2 h3]⟩
  · rename_i h2 h3
    exact ends_of ⟨rfl, by show _ = SV.d (pr (nearF p q (b - 1).toNat)); rw [nearF_eq2 (by omega) (by omega) h1 h2 h3]⟩

def c_parts : Ct := ⟨2, fun xs => ∃ p q : Nat, xs = [dI p, dI q] ∧ q < 2 ^ 40, fun xs y F => F = [] ∧ match xs with
  | [.d (.int p), .d (.int q)] => y = .d (.list ((cf p.toNat q.toNat).map fun z => .int (z : Nat)))
  | _ => False⟩

abbrev s_parts_of_fraction : Stmt := topS 8
theorem sc_parts_of_fraction : FnScope ["p", "q", "found"] ["p", "q"] (defScope s_parts_of_fraction) := ⟨rfl, rfl, rfl, by decide +kernel, rfl, by decide +kernel, by decide +kernel⟩
theorem ok_parts_of_fraction {f : Addr} {fd : FuncData} (F : Fun K "parts_of_fraction" "parts_of_fraction" s_parts_of_fraction f fd) (B : Bt mg) :
    FnOk P w K mg base CX0 1 f fd ["p", "q"] (c_parts.sp K T) := by
  refine ok_ct c_parts F sc_parts_of_fraction rfl fun cdv A outer s H E hr => ⟨_, (pss_cons (ps_asg (pe_lst pa_nil) (pg_name (i := 2) sc_parts_of_fraction.nd rfl (by first | exact Or.inl rfl | exact Or.inr rfl)))
      (pss_cons (ps_while PassesOwn.never (pt_cmpR (k_neD (K := K) rfl hr.units) (pv 1) pe_int (nomark _)) (pss_cons (ps_expr (k_bm (K := K) rfl (pe_bm PySem.F.plainAttrs_list PySem.F.slot_list_append PySem.F.type_list_append mt_append (pv 2) (pa_cons (pe_op op_fdivW (pv 0) (pv 1)) pa_nil))))
      (pss_one (ps_par (i := 0) (j := 1) (by rfl) sc_parts_of_fraction.nd rfl rfl (by decide) rfl rfl (pa_cons (pv 1) (pa_cons (pe_op op_mod (pv 0) (pv 1)) pa_nil)) (by rfl)))))
      (pss_one (ps_ret (pv 2))))), fun C xs hn hp => ?_⟩
  obtain ⟨p, q, rfl, hq⟩ := hp
  change ST C _ [some (dI p), some (dI q), none] [] _
  repeat' walk_at "g1"
  refine tj_lst ?_
  repeat' walk_at "g1"
  refine ⟨by decide, fun l hl => ?_⟩
  repeat' walk_at "g1"
  refine st_while (fun m S F => ∃ (x y : Nat) (zs : List Nat), m = y ∧ S = [some (dI x), some (dI y), some (.m l)] ∧ F = [(l, .lst (zs.map fun z => dI (z : Nat)))] ∧ zs ++ cf x y = cf p q ∧ y ≤ q) ⟨q, p, q, [], rfl, rfl, rfl, rfl, Nat.le_refl _⟩ ?_
  rintro y S F ⟨x, _, zs, rfl, rfl, rfl, hz, hyq⟩
  have hlen : zs.length ≤ 2 * 40 + 1 := by
    have h1 := cf_len2 40 p q hq
    rw [← hz, List.length_append] at h1
    omega
  repeat' walk_at "g1"
  · rename_i hc
    have hy : y ≠ 0 := by omega
    refine app_go2 (xs := zs.map fun z => dI (z : Nat)) (List.Mem.head _) (by rw [List.length_map]; omega) ?_
    rw [setF_one]
    repeat' walk_at "g1"
    have hm : x % y < y := Nat.mod_lt _ (by omega)
    refine ⟨x % y, hm, y, x % y, zs ++ [x / y], rfl, by rw [mod_nat], by rw [List.map_append, div_nat]; rfl, ?_⟩
    refine ⟨?_, by omega⟩
    rw [List.append_assoc, ← hz, cf_pos hy]
    rfl
  · rename_i hc
    have hy : y = 0 := by omega
    subst hy
    rw [cf_zero, List.append_nil] at hz
    subst hz
    exact ends_fr (ds := (cf p q).map fun z => .int (z : Nat)) (by rw [List.map_map]; exact List.Mem.head _) ⟨rfl, rfl⟩

def Small (ns : List Int) : Prop := ns.length ≤ 2000000 ∧ ∀ n ∈ ns, -18446744073709551616 < n ∧ n < 18446744073709551616
theorem drop_rev {ns : List Int} {i : Nat} {z : Int} (h : ns.reverse[i]? = some z) : evF (ns.drop (ns.length - (i + 1))) = (z * (evF (ns.drop (ns.length - i))).1 + (evF (ns.drop (ns.length - i))).2, (evF (ns.drop (ns.length - i))).1) := by
  have hi : i < ns.length := by
    have := (List.getElem?_eq_some_iff.mp h).1
    rwa [List.length_reverse] at this
  rw [List.getElem?_reverse hi] at h
  have hj : ns.length - 1 - i < ns.length := by omega
  rw [List.getElem?_eq_getElem hj] at h
  have e : ns.drop (ns.length - (i + 1)) = ns[ns.length - 1 - i] :: ns.drop (ns.length - i) := by
    rw [show ns.length - (i + 1) = ns.length - 1 - i by omega, List.drop_eq_getElem_cons hj, show ns.length - 1 - i + 1 = ns.length - i by omega]
  rw [e, Option.some.inj h]
  rfl
def c_frac : Ct := ⟨1, fun xs => ∃ ns : List Int, xs = [.d (.tuple (ns.map .int))] ∧ Small ns, fun xs y F => F = [] ∧ ∃ ns : List Int, xs = [.d (.tuple (ns.map .int))] ∧ y = .d (pr (evF ns))⟩

abbrev s_fraction_of : Stmt := topS 9
theorem sc_fraction_of : FnScope ["parts", "p", "q", "part", "common"] ["parts"] (defScope s_fraction_of) := ⟨rfl, rfl, rfl, by decide +kernel, rfl, by decide +kernel, by decide +kernel⟩
theorem ok_fraction_of {f : Addr} {fd : FuncData} (F : Fun K "fraction_of" "fraction_of" s_fraction_of f fd) (B : Bt mg) :
    FnOk P w K mg base CX0 1 f fd ["parts"] (c_frac.sp K T) := by
  refine ok_ct c_frac F sc_fraction_of rfl fun cdv A outer s H E hr => ⟨_, (pss_cons (ps_asg (pe_tup (pa_cons pe_int (pa_cons pe_int pa_nil))) (k_gtup (K := K) (n := 2) rfl rfl (pgs_cons (pg_name (i := 1) sc_fraction_of.nd rfl (by first | exact Or.inl rfl | exact Or.inr rfl)) (pgs_cons (pg_name (i := 2) sc_fraction_of.nd rfl (by first | exact Or.inl rfl | exact Or.inr rfl)) pgs_nil))))
      (pss_cons (ps_for PassesOwn.never rfl (k_rev (K := K) rfl (by rfl) B.b_reversed (pv 0)) (pg_name (i := 3) sc_fraction_of.nd rfl (by first | exact Or.inl rfl | exact Or.inr rfl)) (pss_one (ps_par (i := 1) (j := 2) (by rfl) sc_fraction_of.nd rfl rfl (by decide) rfl rfl (pa_cons (pe_op (k_addA (K := K) rfl) (pe_op op_mul (pv 3) (pv 1)) (pv 2)) (pa_cons (pv 1) pa_nil)) (by rfl))))
      (pss_cons (ps_asg (pe_callBfun cr_gcd (by rfl) B.g_gcd (pa_cons (pv 1) (pa_cons (pv 2) pa_nil))) (pg_name (i := 4) sc_fraction_of.nd rfl (by first | exact Or.inl rfl | exact Or.inr rfl)))
      (pss_one (ps_ret (pe_tup (pa_cons (pe_op op_fdivW (pv 1) (pv 4)) (pa_cons (pe_op op_fdivW (pv 2) (pv 4)) pa_nil)))))))), fun C xs hn hp => ?_⟩
  obtain ⟨ns, rfl, hs1, hs2⟩ := hp
  change ST C _ [some (.d (.tuple (ns.map .int))), none, none, none, none] [] _
  repeat' walk_at "g1"
  repeat' walk_at "g1"
  refine st_for (it_revA ?_)
  repeat' walk_at "g1"
  refine ⟨_, .inl rfl, ?_⟩
  refine ⟨fun i S F => ∃ u : Option SV, S = [some (.d (.tuple (ns.map .int))), some (dI (evF (ns.drop (ns.length - i))).1), some (dI (evF (ns.drop (ns.length - i))).2), u, none] ∧ F = [], ⟨none, by rw [Nat.sub_zero, List.drop_length]; rfl, rfl⟩, ?_, ?_⟩
  · rintro i y S F hi ⟨u, rfl, rfl⟩
    have hy : ∃ z, y = dI z ∧ z ∈ ns ∧ ns.reverse[i]? = some z := by
      rw [← List.map_reverse, List.map_map, List.getElem?_map] at hi
      obtain ⟨z, hz, rfl⟩ := Option.map_eq_some_iff.mp hi
      exact ⟨z, rfl, List.mem_reverse.mp (List.mem_of_getElem? hz), hz⟩
    obtain ⟨z, rfl, hz, hzi⟩ := hy
    have hb := hs2 z hz
    repeat' walk_at "g1"
    rw [drop_rev hzi]
    exact ⟨_, rfl, rfl⟩
  · rintro S F ⟨u, rfl, rfl⟩
    have e : ns.length - (List.map SV.d (List.map PyData.int ns).reverse).length = 0 := by simp
    rw [e, List.drop_zero]
    have hg : ((Nat.gcd (evF ns).1.natAbs (evF ns).2.natAbs : Nat) : Int) = 1 := by
      have := evF_gcd ns
      rw [Int.gcd] at this
      rw [this]
      rfl
    repeat' walk_at "g1"
    rw [hg]
    repeat' walk_at "g1"
    refine ends_of ⟨rfl, ?_⟩
    rw [Int.ediv_one, Int.ediv_one]
    exact ⟨ns, rfl, rfl⟩

abbrev s_u_law_same : Stmt := topS 11
theorem sc_u_law_same : FnScope ["actual", "due", "k"] ["actual", "due"] (defScope s_u_law_same) := ⟨rfl, rfl, rfl, by decide +kernel, rfl, by decide +kernel, by decide +kernel⟩
theorem step_u_law_same {f : Addr} {fd : FuncData} (F : Fun K "_law_same" "_law_same" s_u_law_same f fd) (B : Bt mg) {n : Nat} (D_u_law_same : DefOk P w K mg base n "_law_same" ["actual", "due"] ((c_same n).sp K T)) :
    FnOk P w K mg base CX0 (n + 1) f fd ["actual", "due"] ((c_same (n + 1)).sp K T) := by
  refine ok_ct (c_same (n + 1)) F sc_u_law_same rfl fun cdv A outer s H E hr => ⟨_, (pss_cons (ps_if (PW.pt (pw_or (pt_val (pe_callB (k_isi (K := K) rfl) (by rfl) B.b_isinstance (by decide +kernel) (pa_cons (pv 1) (pa_cons (pe_bltn (v := .ty "tuple") (by rfl) B.b_tuple (by decide +kernel) rfl) pa_nil)))) (pw_or1 (pt_val (pe_callB (k_isi (K := K) rfl) (by rfl) B.b_isinstance (by decide +kernel) (pa_cons (pv 1) (pa_cons (pe_bltn (v := .ty "list") (by rfl) B.b_list (by decide +kernel) rfl) pa_nil))))))) (pss_cons (ps_if (PW.pt (pw_or (pt_cmpR (k_neD (K := K) rfl hr.units) (pe_callB (k_isi (K := K) rfl) (by rfl) B.b_isinstance (by decide +kernel) (pa_cons (pv 1) (pa_cons (pe_bltn (v := .ty "tuple") (by rfl) B.b_tuple (by decide +kernel) rfl) pa_nil))) (pe_callB (k_isi (K := K) rfl) (by rfl) B.b_isinstance (by decide +kernel) (pa_cons (pv 0) (pa_cons (pe_bltn (v := .ty "tuple") (by rfl) B.b_tuple (by decide +kernel) rfl) pa_nil))) (nomark _)) (pw_or1 (pt_cmpR (k_neD (K := K) rfl hr.units) (pe_callB (k_isi (K := K) rfl) (by rfl) B.b_isinstance (by decide +kernel) (pa_cons (pv 1) (pa_cons (pe_bltn (v := .ty "list") (by rfl) B.b_list (by decide +kernel) rfl) pa_nil))) (pe_callB (k_isi (K := K) rfl) (by rfl) B.b_isinstance (by decide +kernel) (pa_cons (pv 0) (pa_cons (pe_bltn (v := .ty "list") (by rfl) B.b_list (by decide +kernel) rfl) pa_nil))) (nomark _))))) (pss_one (ps_ret pe_bl)) pss_nil)
      (pss_cons (ps_if (pt_cmpR (k_neD (K := K) rfl hr.units) (pe_callB (k_len (K := K) rfl) (by rfl) B.b_len (by decide +kernel) (pa_cons (pv 0) pa_nil)) (pe_callB (k_len (K := K) rfl) (by rfl) B.b_len (by decide +kernel) (pa_cons (pv 1) pa_nil)) (nomark _)) (pss_one (ps_ret pe_bl)) pss_nil)
      (pss_one (ps_ret (pe_cmpR (k_eqD (K := K) rfl hr.units) (pe_callB (k_len (K := K) rfl) (by rfl) B.b_len (by decide +kernel) (pa_cons (pe_lc (own := [("k", 2)]) rfl sc_u_law_same.nd (pi_range1 (by rfl) B.b_range (pa_cons (pe_callB (k_len (K := K) rfl) (by rfl) B.b_len (by decide +kernel) (pa_cons (pv 1) pa_nil)) pa_nil)) (blkOk_by (N := ["actual", "due", "k"]) (sc := defScope s_u_law_same) (by decide +kernel)) (fun _ _ _ _ _ => (pg_name (i := 2) sc_u_law_same.nd rfl (by first | exact Or.inl rfl | exact Or.inr rfl))) (fun _ _ _ _ _ => (pts_one (pt_not (pt_val (pe_dcall D_u_law_same hr (by rfl) (pa_cons (pe_ix (k_ix (K := K) rfl) (pv 0) (pv 2) (fun _ _ => rfl)) (pa_cons (pe_ix (k_ix (K := K) rfl) (pv 1) (pv 2) (fun _ _ => rfl)) pa_nil))))))) (fun _ _ _ _ _ => (pv 2))) pa_nil)) pe_int (nomark _)))))) pss_nil)
      (pss_cons (ps_if (pt_cmpR op_isN (pv 1) pe_non (nomark _)) (pss_one (ps_ret (pe_cmpR op_isN (pv 0) pe_non (nomark _)))) pss_nil)
      (pss_cons (ps_if (PW.pt (pw_or (pt_val (pe_callB (k_isi (K := K) rfl) (by rfl) B.b_isinstance (by decide +kernel) (pa_cons (pv 1) (pa_cons (pe_bltn (v := .ty "bool") (by rfl) B.b_bool (by decide +kernel) rfl) pa_nil)))) (pw_or1 (pt_val (pe_callB (k_isi (K := K) rfl) (by rfl) B.b_isinstance (by decide +kernel) (pa_cons (pv 0) (pa_cons (pe_bltn (v := .ty "bool") (by rfl) B.b_bool (by decide +kernel) rfl) pa_nil))))))) (pss_one (ps_ret (pe_and (pe_callB (k_isi (K := K) rfl) (by rfl) B.b_isinstance (by decide +kernel) (pa_cons (pv 1) (pa_cons (pe_bltn (v := .ty "bool") (by rfl) B.b_bool (by decide +kernel) rfl) pa_nil))) (pe_and (pe_callB (k_isi (K := K) rfl) (by rfl) B.b_isinstance (by decide +kernel) (pa_cons (pv 0) (pa_cons (pe_bltn (v := .ty "bool") (by rfl) B.b_bool (by decide +kernel) rfl) pa_nil))) (pe_one (pe_cmpR (k_eqD (K := K) rfl hr.units) (pv 0) (pv 1) (nomark _))))))) pss_nil)
      (pss_cons (ps_if (pt_val (pe_callB (k_isi (K := K) rfl) (by rfl) B.b_isinstance (by decide +kernel) (pa_cons (pv 1) (pa_cons (pe_bltn (v := .ty "int") (by rfl) B.b_int (by decide +kernel) rfl) pa_nil)))) (pss_one (ps_ret (pe_and (pe_callB (k_isi (K := K) rfl) (by rfl) B.b_isinstance (by decide +kernel) (pa_cons (pv 0) (pa_cons (pe_bltn (v := .ty "int") (by rfl) B.b_int (by decide +kernel) rfl) pa_nil))) (pe_one (pe_cmpR (k_eqD (K := K) rfl hr.units) (pv 0) (pv 1) (nomark _)))))) pss_nil)
      (pss_one (ps_ret (pe_and (pe_callB (k_isi (K := K) rfl) (by rfl) B.b_isinstance (by decide +kernel) (pa_cons (pv 0) (pa_cons (pe_bltn (v := .ty "str") (by rfl) B.b_str (by decide +kernel) rfl) pa_nil))) (pe_one (pe_cmpR (k_eqD (K := K) rfl hr.units) (pv 0) (pv 1) (nomark _)))))))))), fun C xs hn hp => ?_⟩
  obtain ⟨d, e, k, l, rfl, hd, hk, he, hl, hn⟩ := hp
  change ST C _ [some (.d d), some (.d e), none] [] _
  have se : SeqAt.shaped e = true := he.shaped (by omega)
  have sd : SeqAt.shaped d = true := hd.shaped hk
  cases e with
  | none =>
    repeat' walk_at "g1"
    exact ends_of ⟨rfl, _, rfl, by cases d <;> simp [isN]⟩
  | int j =>
    repeat' walk_at "g1"
    · exact ends_of ⟨rfl, _, rfl, by cases d <;> simp_all [isBl]⟩
    · refine ro_eqD sd se ?_
      exact ends_of ⟨rfl, _, rfl, by clear se sd he hd; cases d <;> simp_all [isInt, isBl, PyData.eqv]⟩
    · exact ends_of ⟨rfl, _, rfl, by clear se sd he hd; cases d <;> simp_all [isInt]⟩
  | bool j =>
    repeat' walk_at "g1"
    · refine ro_eqD sd se ?_
      exact ends_of ⟨rfl, _, rfl, by clear se sd he hd; cases d <;> simp_all [isBl, PyData.eqv]⟩
    · exact ends_of ⟨rfl, _, rfl, by clear se sd he hd; cases d <;> simp_all [isBl]⟩
  | str j =>
    repeat' walk_at "g1"
    · exact ends_of ⟨rfl, _, rfl, by clear se sd he hd; cases d <;> simp_all [isBl]⟩
    · refine ro_eqD sd se ?_
      rename_i h1 h2
      refine ends_of ⟨rfl, _, rfl, ?_⟩
      clear se sd he hd
      cases d with
      | str x => simp only [PyData.eqv, beq_iff_eq, PyData.str.injEq]
      | _ => simp [isStr] at h2
    · exact ends_of ⟨rfl, _, rfl, by clear se sd he hd; cases d <;> simp_all [isStr]⟩
  | dict j => cases he
  | list es =>
    repeat' walk_at "g1"
    · exact ends_of ⟨rfl, _, rfl, (fun z => by cases z), by rintro rfl; rename_i h; simp [isTup, isLst] at h⟩
    · exact ends_of ⟨rfl, _, rfl, (fun z => by cases z), by rintro rfl; rename_i h; simp [isTup, isLst] at h⟩
    · rename_i h1 h2
      obtain ⟨ds, rfl⟩ : ∃ ds, d = .list ds := by
        clear se sd he hd
        cases d with
        | list ds => exact ⟨ds, rfl⟩
        | _ => first | (simp [isTup, isLst] at h1; done) | (simp [isTup, isLst] at h2; done)
      repeat' walk_at "g1"
      · refine ends_of ⟨rfl, _, rfl, ?_⟩
        rename_i h3
        constructor
        · intro z; cases z
        · intro z; cases z; exact absurd rfl h3
      · rename_i h3
        have hln : ds.length = es.length := by omega
        cases he with
        | lst hz ho =>
        rename_i l
        cases hd with
        | lst hz2 ho2 =>
        rename_i k
        refine tj_lc (wok_name (by simp)) (it_rng1 ?_)
        repeat' walk_at "g1"
        refine ⟨by omega, fun D hD => ⟨fun i acc F' => F' = [] ∧ ∃ p : Nat → Bool, (∀ j d e, j < i → ds[j]? = some d → es[j]? = some e → (p j = true ↔ d = e)) ∧ acc = ((List.range i).filter fun j => !p j).map (fun j => dI (j : Nat)) ∧ i ≤ es.length, ⟨rfl, fun _ => true, fun j d e h => absurd h (Nat.not_lt_zero _), by simp, Nat.zero_le _⟩, ?_, ?_⟩⟩
        · rintro i y acc F' hi ⟨rfl, p, hp, hacc, hle⟩
          obtain ⟨hi2, rfl⟩ := rg_get hi
          have hi3 : i < es.length := by omega
          have hac : acc.length ≤ i := by
            rw [hacc, List.length_map]
            exact Nat.le_trans (List.length_filter_le _ _) (by simp)
          have g1 : es[i]? = some es[i] := List.getElem?_eq_getElem hi3
          have g2 : ds[i]? = some (ds[i]'(by omega)) := List.getElem?_eq_getElem _
          rw [Int.zero_add]
          refine tg_name ?_
          simp only [wipeS, List.map, List.set]
          repeat' walk_at "g1"
          refine ro_ixL (atI_nat g2) ?_
          repeat' walk_at "g1"
          refine ro_ixL (atI_nat g1) ?_
          repeat' walk_at "g1"
          refine cl_ct rfl ⟨_, _, k, l, rfl, ho2 _ (List.mem_of_getElem? g2), by omega, ho _ (List.mem_of_getElem? g1), by omega, by omega⟩ ?_
          rintro y F' ⟨rfl, b, rfl, hb⟩ _
          dsimp only [List.nil_append]
          have next : ∀ q : Nat → Bool, q = (fun j => if j = i then b else p j) → ∀ j d e, j < i + 1 → ds[j]? = some d → es[j]? = some e → (q j = true ↔ d = e) := by
            rintro q rfl j d e hj e1 e2
            by_cases hji : j = i
            · subst hji
              rw [g2] at e1
              rw [g1] at e2
              cases e1
              cases e2
              show (if j = j then b else p j) = true ↔ _
              rw [if_pos rfl]
              exact hb
            · show (if j = i then b else p j) = true ↔ _
              rw [if_neg hji]
              exact hp j d e (by omega) e1 e2
          have same : (List.range i).filter (fun j => !(if j = i then b else p j)) = (List.range i).filter fun j => !p j := by
            apply List.filter_congr
            intro j hj
            have := List.mem_range.mp hj
            rw [if_neg (by omega)]
          refine ⟨_, rfl, fun hc => ?_, fun hc => ?_⟩
          · have hb0 : b = false := by cases b <;> simp_all
            refine tj_var (x := dI (i : Nat)) rfl ⟨_, rfl, by omega, rfl, _, next _ rfl, ?_, by omega⟩
            rw [List.range_succ, List.filter_append, same, List.map_append, ← hacc, List.filter_cons, if_pos (by simp [hb0])]
            rfl
          · have hb0 : b = true := by cases b <;> simp_all
            refine ⟨_, rfl, rfl, _, next _ rfl, ?_, by omega⟩
            rw [List.range_succ, List.filter_append, same, List.map_append, ← hacc, List.filter_cons, if_neg (by simp [hb0])]
            simp
        · rintro acc F' ⟨rfl, p, hp, hacc, hle⟩
          rw [rg_len] at hp hacc
          repeat' walk_at "g1"
          refine ends_of ⟨rfl, _, rfl, ?_⟩
          rw [hacc, List.length_map]
          have q := same_places hln (p := p) fun j d e e1 e2 => hp j d e (by have := (List.getElem?_eq_some_iff.mp e2).1; omega) e1 e2
          rw [show ((es.length : Int)).toNat = es.length by omega]
          constructor
          · intro z
            rw [q.mp (by have := of_decide_eq_true z; omega)]
          · intro z
            cases z
            exact decide_eq_true (by rw [q.mpr rfl]; rfl)
  | tuple es =>
    repeat' walk_at "g1"
    · exact ends_of ⟨rfl, _, rfl, (fun z => by cases z), by rintro rfl; rename_i h; simp [isTup, isLst] at h⟩
    · exact ends_of ⟨rfl, _, rfl, (fun z => by cases z), by rintro rfl; rename_i h; simp [isTup, isLst] at h⟩
    · rename_i h1 h2
      obtain ⟨ds, rfl⟩ : ∃ ds, d = .tuple ds := by
        clear se sd he hd
        cases d with
        | tuple ds => exact ⟨ds, rfl⟩
        | _ => first | (simp [isTup, isLst] at h1; done) | (simp [isTup, isLst] at h2; done)
      repeat' walk_at "g1"
      · refine ends_of ⟨rfl, _, rfl, ?_⟩
        rename_i h3
        constructor
        · intro z; cases z
        · intro z; cases z; exact absurd rfl h3
      · rename_i h3
        have hln : ds.length = es.length := by omega
        cases he with
        | tup hz ho =>
        rename_i l
        cases hd with
        | tup hz2 ho2 =>
        rename_i k
        refine tj_lc (wok_name (by simp)) (it_rng1 ?_)
        repeat' walk_at "g1"
        refine ⟨by omega, fun D hD => ⟨fun i acc F' => F' = [] ∧ ∃ p : Nat → Bool, (∀ j d e, j < i → ds[j]? = some d → es[j]? = some e → (p j = true ↔ d = e)) ∧ acc = ((List.range i).filter fun j => !p j).map (fun j => dI (j : Nat)) ∧ i ≤ es.length, ⟨rfl, fun _ => true, fun j d e h => absurd h (Nat.not_lt_zero _), by simp, Nat.zero_le _⟩, ?_, ?_⟩⟩
        · rintro i y acc F' hi ⟨rfl, p, hp, hacc, hle⟩
          obtain ⟨hi2, rfl⟩ := rg_get hi
          have hi3 : i < es.length := by omega
          have hac : acc.length ≤ i := by
            rw [hacc, List.length_map]
            exact Nat.le_trans (List.length_filter_le _ _) (by simp)
          have g1 : es[i]? = some es[i] := List.getElem?_eq_getElem hi3
          have g2 : ds[i]? = some (ds[i]'(by omega)) := List.getElem?_eq_getElem _
          rw [Int.zero_add]
          refine tg_name ?_
          simp only [wipeS, List.map, List.set]
          repeat' walk_at "g1"
          refine ro_ixT (atI_nat g2) ?_
          repeat' walk_at "g1"
          refine ro_ixT (atI_nat g1) ?_
          repeat' walk_at "g1"
          refine cl_ct rfl ⟨_, _, k, l, rfl, ho2 _ (List.mem_of_getElem? g2), by omega, ho _ (List.mem_of_getElem? g1), by omega, by omega⟩ ?_
          rintro y F' ⟨rfl, b, rfl, hb⟩ _
          dsimp only [List.nil_append]
          have next : ∀ q : Nat → Bool, q = (fun j => if j = i then b else p j) → ∀ j d e, j < i + 1 → ds[j]? = some d → es[j]? = some e → (q j = true ↔ d = e) := by
            rintro q rfl j d e hj e1 e2
            by_cases hji : j = i
            · subst hji
              rw [g2] at e1
              rw [g1] at e2
              cases e1
              cases e2
              show (if j = j then b else p j) = true ↔ _
              rw [if_pos rfl]
              exact hb
            · show (if j = i then b else p j) = true ↔ _
              rw [if_neg hji]
              exact hp j d e (by omega) e1 e2
          have same : (List.range i).filter (fun j => !(if j = i then b else p j)) = (List.range i).filter fun j => !p j := by
            apply List.filter_congr
            intro j hj
            have := List.mem_range.mp hj
            rw [if_neg (by omega)]
          refine ⟨_, rfl, fun hc => ?_, fun hc => ?_⟩
          · have hb0 : b = false := by cases b <;> simp_all
            refine tj_var (x := dI (i : Nat)) rfl ⟨_, rfl, by omega, rfl, _, next _ rfl, ?_, by omega⟩
            rw [List.range_succ, List.filter_append, same, List.map_append, ← hacc, List.filter_cons, if_pos (by simp [hb0])]
            rfl
          · have hb0 : b = true := by cases b <;> simp_all
            refine ⟨_, rfl, rfl, _, next _ rfl, ?_, by omega⟩
            rw [List.range_succ, List.filter_append, same, List.map_append, ← hacc, List.filter_cons, if_neg (by simp [hb0])]
            simp
        · rintro acc F' ⟨rfl, p, hp, hacc, hle⟩
          rw [rg_len] at hp hacc
          repeat' walk_at "g1"
          refine ends_of ⟨rfl, _, rfl, ?_⟩
          rw [hacc, List.length_map]
          have q := same_places hln (p := p) fun j d e e1 e2 => hp j d e (by have := (List.getElem?_eq_some_iff.mp e2).1; omega) e1 e2
          rw [show ((es.length : Int)).toNat = es.length by omega]
          constructor
          · intro z
            rw [q.mp (by have := of_decide_eq_true z; omega)]
          · intro z
            cases z
            exact decide_eq_true (by rw [q.mpr rfl]; rfl)

theorem ok_u_law_same {f : Addr} {fd : FuncData} (F : Fun K "_law_same" "_law_same" s_u_law_same f fd) (B : Bt mg) (hm : mg "_law_same" = some (.ref f)) (hb : Binds K fd ["actual", "due"] []) : ∀ n : Nat,
    FnOk P w K mg base CX0 n f fd ["actual", "due"] ((c_same n).sp K T)
  | 0 => fn_none fun xs ⟨d, e, _, _, _, _, _, _, h, _⟩ => absurd h (Nat.not_lt_zero _)
  | n + 1 => step_u_law_same F B ⟨f, fd, ok_u_law_same F B hm hb n, hm, F.kp, hb⟩

abbrev s_u_law_pool : Stmt := topS 12
theorem sc_u_law_pool : FnScope ["script", "salt", "cell"] ["script"] (defScope s_u_law_pool) := ⟨rfl, rfl, rfl, by decide +kernel, rfl, by decide +kernel, by decide +kernel⟩
theorem ok_u_law_pool {f : Addr} {fd : FuncData} (F : Fun K "_law_pool" "_law_pool" s_u_law_pool f fd) (B : Bt mg) :
    FnOk P w K mg base CX0 1 f fd ["script"] (c_pool.sp K T) := by
  refine ok_ct c_pool F sc_u_law_pool rfl fun cdv A outer s H E hr => ⟨_, (pss_cons (ps_asg pe_int (pg_name (i := 1) sc_u_law_pool.nd rfl (by first | exact Or.inl rfl | exact Or.inr rfl)))
      (pss_cons (ps_for PassesOwn.never rfl (k_seq (K := K) rfl (pe_slice (k_sl (K := K) rfl) (pv 0) po_none (po_some pe_int))) (pg_name (i := 2) sc_u_law_pool.nd rfl (by first | exact Or.inl rfl | exact Or.inr rfl)) (pss_one (ps_asg (pe_op op_mod (pe_callTy call_int1 (by rfl) B.b_int (by decide +kernel) (pa_cons (pe_op (k_addA (K := K) rfl) (pe_op op_mul (pv 1) pe_int) (pv 2)) pa_nil)) pe_int) (pg_name (i := 1) sc_u_law_pool.nd rfl (by first | exact Or.inl rfl | exact Or.inr rfl)))))
      (pss_one (ps_ret (pe_lst (pa_cons (pe_callTy (k_list (K := K) rfl) (by rfl) B.b_list (by decide +kernel) (pa_cons (pv 0) pa_nil)) (pa_cons pe_int (pa_cons pe_int (pa_cons pe_int (pa_cons (pv 1) pa_nil)))))))))), fun C xs hn hp => ?_⟩
  obtain ⟨ns, rfl⟩ := hp
  change ST C _ [some (.d (.list (ns.map .int))), none, none] [] _
  repeat' walk_at "g1"
  refine st_for (it_seqL (tj_sl ?_))
  repeat' walk_at "g1"
  refine to_none (to_some ?_)
  repeat' walk_at "g1"
  refine .inl ⟨_, rfl, _, rfl, ?_⟩
  refine ⟨fun i S F => ∃ (x : Int) (u : Option SV), S = [some (.d (.list (ns.map .int))), some (dI x), u] ∧ F = [], ⟨_, _, rfl, rfl⟩, ?_, ?_⟩
  · rintro i y S F hi ⟨x, u, rfl, rfl⟩
    have hy : ∃ z, y = dI z := by
      rw [List.getElem?_map] at hi
      obtain ⟨d, hd, rfl⟩ := Option.map_eq_some_iff.mp hi
      have := List.mem_of_getElem? hd
      unfold cutD at this
      obtain ⟨z, _, rfl⟩ := List.mem_map.mp (List.mem_of_mem_drop (List.mem_of_mem_take this))
      exact ⟨z, rfl⟩
    obtain ⟨z, rfl⟩ := hy
    repeat' walk_at "g1"
    try exact ⟨_, _, rfl, rfl⟩
  · rintro S F ⟨x, u, rfl, rfl⟩
    repeat' walk_at "g1"
    refine tj_lst ?_
    repeat' walk_at "g1"
    refine rc_listD (.inl rfl) ?_
    repeat' walk_at "g1"
    refine ⟨by show 5 ≤ 1000; decide, fun l _ => ends_full ⟨l, _, rfl, ⟨ns, 0, 0, 0, x, rfl, by decide⟩, rfl⟩⟩


abbrev s_u_law_spread : Stmt := topS 13
theorem sc_u_law_spread : FnScope ["cell", "mixed", "total", "k"] ["cell"] (defScope s_u_law_spread) := ⟨rfl, rfl, rfl, by decide +kernel, rfl, by decide +kernel, by decide +kernel⟩
theorem ok_u_law_spread {f : Addr} {fd : FuncData} (F : Fun K "_law_spread" "_law_spread" s_u_law_spread f fd) (B : Bt mg) :
    FnOk P w K mg base CX0 1 f fd ["cell"] (c_spread.sp K T) := by
  refine ok_ct c_spread F sc_u_law_spread rfl fun cdv A outer s H E hr => ⟨_, (pss_cons (ps_asg (pe_op op_mod (pe_callTy call_int1 (by rfl) B.b_int (by decide +kernel) (pa_cons (pv 0) pa_nil)) pe_int) (pg_name (i := 1) sc_u_law_spread.nd rfl (by first | exact Or.inl rfl | exact Or.inr rfl)))
      (pss_cons (ps_asg pe_int (pg_name (i := 2) sc_u_law_spread.nd rfl (by first | exact Or.inl rfl | exact Or.inr rfl)))
      (pss_cons (ps_for PassesOwn.never rfl (pi_range1 (by rfl) B.b_range (pa_cons pe_int pa_nil)) (pg_name (i := 3) sc_u_law_spread.nd rfl (by first | exact Or.inl rfl | exact Or.inr rfl)) (pss_cons (ps_asg (pe_op op_mod (pe_callTy call_int1 (by rfl) B.b_int (by decide +kernel) (pa_cons (pe_op (k_addA (K := K) rfl) (pe_op (k_addA (K := K) rfl) (pe_op op_mul (pv 1) pe_int) pe_int) (pv 3)) pa_nil)) pe_int) (pg_name (i := 1) sc_u_law_spread.nd rfl (by first | exact Or.inl rfl | exact Or.inr rfl)))
      (pss_one (ps_asg (pe_op (k_addA (K := K) rfl) (pe_op op_mul (pv 2) pe_int) (pv 1)) (pg_name (i := 2) sc_u_law_spread.nd rfl (by first | exact Or.inl rfl | exact Or.inr rfl))))))
      (pss_one (ps_ret (pv 2)))))), fun C xs hn hp => ?_⟩
  obtain ⟨a, rfl⟩ := hp
  change ST C _ [some (dI a), none, none, none] [] _
  repeat' walk_at "g1"
  refine st_for (it_rng1 ?_)
  repeat' walk_at "g1"
  refine ⟨by decide, ?_⟩
  refine ⟨fun i S F => ∃ (x y : Int) (u : Option SV), S = [some (dI a), some (dI x), some (dI y), u] ∧ F = [], ⟨_, _, _, rfl, rfl⟩, ?_, ?_⟩
  · rintro i y S F hi ⟨x, z, u, rfl, rfl⟩
    obtain ⟨_, rfl⟩ := rg_get hi
    repeat' walk_at "g1"
    exact ⟨_, _, _, rfl, rfl⟩
  · rintro S F ⟨x, z, u, rfl, rfl⟩
    repeat' walk_at "g1"
    exact ends_of ⟨rfl, _, rfl⟩


abbrev s_u_law_draw : Stmt := topS 14
theorem sc_u_law_draw : FnScope ["pool", "many", "cell", "mixed", "value"] ["pool", "many"] (defScope s_u_law_draw) := ⟨rfl, rfl, rfl, by decide +kernel, rfl, by decide +kernel, by decide +kernel⟩
theorem ok_u_law_draw {f : Addr} {fd : FuncData} (F : Fun K "_law_draw" "_law_draw" s_u_law_draw f fd) (B : Bt mg)
    (D_u_law_spread : DefOk P w K mg base 1 "_law_spread" ["cell"] (c_spread.sp K T)) :
    FnOk P w K mg base CX0 2 f fd ["pool", "many"] (c_draw.sp K T) := by
  refine ok_ctb c_draw F sc_u_law_draw rfl fun cdv A outer s H E hr => ⟨_, (pss_cons (ps_if (PW.pt (pw_and (pt_cmpR op_le (pe_ix (k_ix (K := K) rfl) (pv 0) pe_int (fun _ _ => rfl)) pe_int (nomark _)) (pw_and1 (pt_cmpR op_lt (pe_ix (k_ix (K := K) rfl) (pv 0) pe_int (fun _ _ => rfl)) (pe_callB (k_len (K := K) rfl) (by rfl) B.b_len (by decide +kernel) (pa_cons (pe_ix (k_ix (K := K) rfl) (pv 0) pe_int (fun _ _ => rfl)) pa_nil)) (nomark _))))) (pss_cons (ps_asg (pe_ix (k_ix (K := K) rfl) (pe_ix (k_ix (K := K) rfl) (pv 0) pe_int (fun _ _ => rfl)) (pe_ix (k_ix (K := K) rfl) (pv 0) pe_int (fun _ _ => rfl)) (fun _ _ => rfl)) (pg_name (i := 2) sc_u_law_draw.nd rfl (by first | exact Or.inl rfl | exact Or.inr rfl)))
      (pss_cons (ps_asg (pe_op (k_addA (K := K) rfl) (pe_ix (k_ix (K := K) rfl) (pv 0) pe_int (fun _ _ => rfl)) pe_int) (pg_sub (pv 0) pe_int set_list))
      (pss_cons (ps_asg (pv 2) (pg_sub (pv 0) pe_int set_list))
      (pss_one (ps_if (pt_cmpR op_lt (pv 2) pe_int (nomark _)) (pss_one (ps_asg (pe_dcall D_u_law_spread hr (by rfl) (pa_cons (pv 2) pa_nil)) (pg_sub (pv 0) pe_int set_list))) pss_nil))))) pss_nil)
      (pss_cons (ps_asg (pe_op (k_addA (K := K) rfl) (pe_ix (k_ix (K := K) rfl) (pv 0) pe_int (fun _ _ => rfl)) pe_int) (pg_sub (pv 0) pe_int set_list))
      (pss_cons (ps_if (pt_cmpR op_le (pe_ix (k_ix (K := K) rfl) (pv 0) pe_int (fun _ _ => rfl)) pe_int (nomark _)) (pss_cons (ps_asg (pe_op op_mod (pe_callTy call_int1 (by rfl) B.b_int (by decide +kernel) (pa_cons (pe_op (k_addA (K := K) rfl) (pe_op (k_addA (K := K) rfl) (pe_op op_mul (pe_ix (k_ix (K := K) rfl) (pv 0) pe_int (fun _ _ => rfl)) pe_int) (pe_op op_mul (pe_ix (k_ix (K := K) rfl) (pv 0) pe_int (fun _ _ => rfl)) pe_int)) pe_int) pa_nil)) pe_int) (pg_name (i := 3) sc_u_law_draw.nd rfl (by first | exact Or.inl rfl | exact Or.inr rfl)))
      (pss_cons (ps_asg (pe_op op_mod (pe_callTy call_int1 (by rfl) B.b_int (by decide +kernel) (pa_cons (pe_op (k_addA (K := K) rfl) (pe_op op_mul (pv 3) pe_int) (pe_ix (k_ix (K := K) rfl) (pv 0) pe_int (fun _ _ => rfl))) pa_nil)) pe_int) (pg_name (i := 3) sc_u_law_draw.nd rfl (by first | exact Or.inl rfl | exact Or.inr rfl)))
      (pss_one (ps_ret (pe_op op_mod (pe_op op_fdivW (pv 3) pe_int) (pv 1)))))) pss_nil)
      (pss_cons (ps_asg (pe_op op_mod (pe_callTy call_int1 (by rfl) B.b_int (by decide +kernel) (pa_cons (pe_ix (k_ix (K := K) rfl) (pv 0) pe_int (fun _ _ => rfl)) pa_nil)) (pv 1)) (pg_name (i := 4) sc_u_law_draw.nd rfl (by first | exact Or.inl rfl | exact Or.inr rfl)))
      (pss_cons (ps_asg (pe_op op_fdivW (pe_ix (k_ix (K := K) rfl) (pv 0) pe_int (fun _ _ => rfl)) (pv 1)) (pg_sub (pv 0) pe_int set_list))
      (pss_one (ps_ret (pv 4)))))))), fun C p mo xs hn hp => ?_⟩
  obtain ⟨⟨ns, i, c, n, salt, rfl, hi⟩, m, rfl, h0, h1⟩ := hp
  change ST C _ [some (.m p), some (dI m), none, none, none] [(p, _)] _
  rw [two199] at h1
  refine st_cut (fun S F => ∃ u mo, S = [some (.m p), some (dI m), u, none, none] ∧ F = [(p, mo)] ∧ isPool mo) ?_ ?_
  · repeat' walk_at "g1"
    · rename_i hc1 hc2
      rw [List.length_map] at hc2
      refine ro_ixI hi (by omega) fun z hz hz2 => ?_
      repeat' walk_at "g1"
      · refine cl_ct rfl ⟨_, rfl⟩ ?_
        rintro y F' ⟨rfl, w, rfl⟩ _
        dsimp only [List.nil_append]
        repeat' walk_at "g1"
        exact ⟨_, _, rfl, rfl, ns, i + 1, w, n, salt, rfl, by omega⟩
      · exact ⟨_, _, rfl, rfl, ns, i + 1, z, n, salt, rfl, by omega⟩
    · exact ⟨_, _, rfl, rfl, ns, i, c, n, salt, rfl, hi⟩
    · exact ⟨_, _, rfl, rfl, ns, i, c, n, salt, rfl, hi⟩
  · rintro S F ⟨u, mo, rfl, rfl, ⟨ns, i, c, n, salt, rfl, hi⟩⟩
    repeat' walk_at "g1"
    · refine ⟨_, List.Sublist.refl _, ⟨ns, i, c, n + 1, salt, rfl, hi⟩, _, rfl, Int.emod_nonneg _ (by omega), Int.emod_lt_of_pos _ h0⟩
    · refine ⟨_, List.Sublist.refl _, ⟨ns, i, _, n + 1, salt, rfl, hi⟩, _, rfl, Int.emod_nonneg _ (by omega), Int.emod_lt_of_pos _ h0⟩


abbrev s_u_law_common : Stmt := topS 15
theorem sc_u_law_common : FnScope ["a", "b", "k", "rest"] ["a", "b"] (defScope s_u_law_common) := ⟨rfl, rfl, rfl, by decide +kernel, rfl, by decide +kernel, by decide +kernel⟩
theorem ok_u_law_common {f : Addr} {fd : FuncData} (F : Fun K "_law_common" "_law_common" s_u_law_common f fd) (B : Bt mg) :
    FnOk P w K mg base CX0 1 f fd ["a", "b"] (c_common.sp K T) := by
  refine ok_ct c_common F sc_u_law_common rfl fun cdv A outer s H E hr => ⟨_, (pss_cons (ps_for PassesOwn.never rfl (pi_range1 (by rfl) B.b_range (pa_cons pe_int pa_nil)) (pg_name (i := 2) sc_u_law_common.nd rfl (by first | exact Or.inl rfl | exact Or.inr rfl)) (pss_cons (ps_if (pt_cmpR (k_eqD (K := K) rfl hr.units) (pv 1) pe_int (nomark _)) (pss_one (ps_ret (pv 0))) pss_nil)
      (pss_cons (ps_asg (pe_op op_mod (pe_callTy call_int1 (by rfl) B.b_int (by decide +kernel) (pa_cons (pv 0) pa_nil)) (pv 1)) (pg_name (i := 3) sc_u_law_common.nd rfl (by first | exact Or.inl rfl | exact Or.inr rfl)))
      (pss_cons (ps_asg (pv 1) (pg_name (i := 0) sc_u_law_common.nd rfl (by first | exact Or.inl rfl | exact Or.inr rfl)))
      (pss_one (ps_asg (pv 3) (pg_name (i := 1) sc_u_law_common.nd rfl (by first | exact Or.inl rfl | exact Or.inr rfl))))))))
      (pss_one (ps_ret (pv 0)))), fun C xs hn hp => ?_⟩
  obtain ⟨a, b, rfl, h2⟩ := hp
  change ST C _ [some (dI a), some (dI b), none, none] [] _
  repeat' walk_at "g1"
  refine st_for (it_rng1 ?_)
  repeat' walk_at "g1"
  refine ⟨by decide, ?_⟩
  refine ⟨fun i S F => ∃ (x y : Nat) (u v : Option SV), S = [some (dI x), some (dI y), u, v] ∧ F = [] ∧ gcdInv a b i x y, ⟨a, b, _, _, rfl, rfl, rfl, .inr (.inl ⟨rfl, rfl, rfl⟩)⟩, ?_, ?_⟩
  · rintro i y S F hi ⟨x, z, u, v, rfl, rfl, inv⟩
    obtain ⟨_, rfl⟩ := rg_get hi
    repeat' walk_at "g1"
    · rename_i hc
      refine ends_of ⟨rfl, ?_⟩
      have hz : z = 0 := by omega
      subst hz
      have := inv.1
      rw [Nat.gcd_zero_right] at this
      show dI _ = dI _
      rw [this]
      rfl
    · rename_i hc
      have hz : z ≠ 0 := by omega
      exact ⟨_, _, _, _, by rw [mod_nat], rfl, gcdInv_step inv hz⟩
  · rintro S F ⟨x, z, u, v, rfl, rfl, inv⟩
    rw [rg_len] at inv
    repeat' walk_at "g1"
    refine ends_of ⟨rfl, ?_⟩
    show dI _ = dI _
    rw [gcdInv_end inv h2]
    rfl

theorem int_inj {ns ms : List Int} (h : ns.map PyData.int = ms.map PyData.int) : ns = ms := by
  have e : (ns.map PyData.int).map (fun d => match d with | .int i => i | _ => 0) = (ms.map PyData.int).map (fun d => match d with | .int i => i | _ => 0) := by rw [h]
  simpa [List.map_map, Function.comp_def] using e
open M80
theorem lowS {p q : Int} {i : Nat} : lowF p q i = if (lowF p q (i - 1)).1 * (1 + (i : Int)) < p * (1 + (i : Int)) / q * (lowF p q (i - 1)).2 then (p * (1 + (i : Int)) / q, 1 + (i : Int)) else lowF p q (i - 1) := by
  cases i with
  | zero => simp [lowF]
  | succ n =>
    rw [Nat.add_sub_cancel, show 1 + ((n + 1 : Nat) : Int) = (n : Int) + 2 by omega]
    rfl
theorem upS {p q : Int} {i : Nat} (hq : 1 ≤ q) : upF p q i = if (if p * (1 + (i : Int)) / q * q = p * (1 + (i : Int)) then p * (1 + (i : Int)) / q else p * (1 + (i : Int)) / q + 1) * (upF p q (i - 1)).2 < (upF p q (i - 1)).1 * (1 + (i : Int)) then ((if p * (1 + (i : Int)) / q * q = p * (1 + (i : Int)) then p * (1 + (i : Int)) / q else p * (1 + (i : Int)) / q + 1), 1 + (i : Int)) else upF p q (i - 1) := by
  rw [ceil_is (by omega)]
  cases i with
  | zero => simp [upF]
  | succ n =>
    rw [Nat.add_sub_cancel, show 1 + ((n + 1 : Nat) : Int) = (n : Int) + 2 by omega]
    rfl
theorem okP {n : Nat} {r : Int × Int} : Ok (n + 1) (pr r) := .tup (by show 2 < 16000000; decide) (okCons .int (okCons .int okNil))
theorem okPP {r s : Int × Int} : Ok 2 (.tuple [pr r, pr s]) := .tup (by show 2 < 16000000; decide) (okCons okP (okCons okP okNil))
theorem eqv_pr {r s : Int × Int} : PyData.eqv (pr r) (pr s) = decide (r = s) := by
  obtain ⟨a, b⟩ := r
  obtain ⟨c, d⟩ := s
  rw [Bool.eq_iff_iff]
  simp [PyData.eqv, PyData.eqvAll]

abbrev s_law : Stmt := topS 16
theorem sc_law : FnScope ["script", "pool", "k", "p", "q", "b", "low", "high", "d", "one", "two", "mine", "yours", "due", "parts", "x", "y", "common", "j", "row", "a"] ["script"] (defScope s_law) := ⟨rfl, rfl, rfl, by decide +kernel, rfl, by decide +kernel, by decide +kernel⟩
theorem ok_law {f : Addr} {fd : FuncData} (F : Fun K "law" "law" s_law f fd) (B : Bt mg)
    (D_u_law_pool : DefOk P w K mg base 1 "_law_pool" ["script"] (c_pool.sp K T))
    (D_u_law_common : DefOk P w K mg base 1 "_law_common" ["a", "b"] (c_common.sp K T))
    (D_u_law_draw : DefOk P w K mg base 2 "_law_draw" ["pool", "many"] (c_draw.sp K T))
    (D_u_law_same : DefOk P w K mg base 4 "_law_same" ["actual", "due"] ((c_same 4).sp K T))
    (D_neighbours : DefOk P w K mg base 3 "neighbours" ["p", "q", "b"] (c_nb.sp K T))
    (D_nearest : DefOk P w K mg base 4 "nearest" ["p", "q", "b"] (c_nearest.sp K T))
    (D_fraction_of : DefOk P w K mg base 1 "fraction_of" ["parts"] (c_frac.sp K T))
    (D_parts_of_fraction : DefOk P w K mg base 1 "parts_of_fraction" ["p", "q"] (c_parts.sp K T)) :
    FnOk P w K mg base CX0 5 f fd ["script"] (c_law.sp K T) := by
  refine ok_ct c_law F sc_law rfl fun cdv A outer s H E hr => ⟨_, (pss_cons (ps_asg (pe_dcall D_u_law_pool (hr.mono (by decide)) (by rfl) (pa_cons (pv 0) pa_nil)) (pg_name (i := 1) sc_law.nd rfl (by first | exact Or.inl rfl | exact Or.inr rfl)))
      (pss_cons (ps_for PassesOwn.never rfl (pi_range1 (by rfl) B.b_range (pa_cons pe_int pa_nil)) (pg_name (i := 2) sc_law.nd rfl (by first | exact Or.inl rfl | exact Or.inr rfl)) (pss_cons (ps_asg (pe_op (k_addA (K := K) rfl) pe_int (pe_dcall D_u_law_draw (hr.mono (by decide)) (by rfl) (pa_cons (pv 1) (pa_cons (pe_ix (k_ix (K := K) rfl) (pe_tup (pa_cons pe_int (pa_cons pe_int (pa_cons (pe_op op_pow pe_int pe_int) pa_nil)))) (pe_dcall D_u_law_draw (hr.mono (by decide)) (by rfl) (pa_cons (pv 1) (pa_cons pe_int pa_nil))) (fun _ _ => rfl)) pa_nil)))) (pg_name (i := 3) sc_law.nd rfl (by first | exact Or.inl rfl | exact Or.inr rfl)))
      (pss_cons (ps_asg (pe_op (k_addA (K := K) rfl) pe_int (pe_dcall D_u_law_draw (hr.mono (by decide)) (by rfl) (pa_cons (pv 1) (pa_cons (pe_ix (k_ix (K := K) rfl) (pe_tup (pa_cons pe_int (pa_cons pe_int (pa_cons (pe_op op_pow pe_int pe_int) pa_nil)))) (pe_dcall D_u_law_draw (hr.mono (by decide)) (by rfl) (pa_cons (pv 1) (pa_cons pe_int pa_nil))) (fun _ _ => rfl)) pa_nil)))) (pg_name (i := 4) sc_law.nd rfl (by first | exact Or.inl rfl | exact Or.inr rfl)))
      (pss_cons (ps_asg (pe_op (k_addA (K := K) rfl) pe_int (pe_dcall D_u_law_draw (hr.mono (by decide)) (by rfl) (pa_cons (pv 1) (pa_cons pe_int pa_nil)))) (pg_name (i := 5) sc_law.nd rfl (by first | exact Or.inl rfl | exact Or.inr rfl)))
      (pss_cons (ps_par (i := 6) (j := 7) (by rfl) sc_law.nd rfl rfl (by decide) rfl rfl (pa_cons (pe_tup (pa_cons (pe_op op_fdivW (pv 3) (pv 4)) (pa_cons pe_int pa_nil))) (pa_cons (pe_tup (pa_cons (pe_op op_sub pe_int (pe_op op_fdivW (pe_op op_sub pe_int (pv 3)) (pv 4))) (pa_cons pe_int pa_nil))) pa_nil)) (by rfl))
      (pss_cons (ps_for PassesOwn.never rfl (pi_range2 (by rfl) B.b_range (pa_cons pe_int (pa_cons (pe_op (k_addA (K := K) rfl) (pv 5) pe_int) pa_nil))) (pg_name (i := 8) sc_law.nd rfl (by first | exact Or.inl rfl | exact Or.inr rfl)) (pss_cons (ps_asg (pe_op op_fdivW (pe_op op_mul (pv 3) (pv 8)) (pv 4)) (pg_name (i := 9) sc_law.nd rfl (by first | exact Or.inl rfl | exact Or.inr rfl)))
      (pss_cons (ps_asg (pe_ifExp (pt_cmpR (k_eqD (K := K) rfl hr.units) (pe_op op_mul (pv 9) (pv 4)) (pe_op op_mul (pv 3) (pv 8)) (nomark _)) (pv 9) (pe_op (k_addA (K := K) rfl) (pv 9) pe_int)) (pg_name (i := 10) sc_law.nd rfl (by first | exact Or.inl rfl | exact Or.inr rfl)))
      (pss_cons (ps_if (pt_cmpR op_gt (pe_op op_mul (pv 9) (pe_ix (k_ix (K := K) rfl) (pv 6) pe_int (fun _ _ => rfl))) (pe_op op_mul (pe_ix (k_ix (K := K) rfl) (pv 6) pe_int (fun _ _ => rfl)) (pv 8)) (nomark _)) (pss_one (ps_asg (pe_tup (pa_cons (pv 9) (pa_cons (pv 8) pa_nil))) (pg_name (i := 6) sc_law.nd rfl (by first | exact Or.inl rfl | exact Or.inr rfl)))) pss_nil)
      (pss_one (ps_if (pt_cmpR op_lt (pe_op op_mul (pv 10) (pe_ix (k_ix (K := K) rfl) (pv 7) pe_int (fun _ _ => rfl))) (pe_op op_mul (pe_ix (k_ix (K := K) rfl) (pv 7) pe_int (fun _ _ => rfl)) (pv 8)) (nomark _)) (pss_one (ps_asg (pe_tup (pa_cons (pv 10) (pa_cons (pv 8) pa_nil))) (pg_name (i := 7) sc_law.nd rfl (by first | exact Or.inl rfl | exact Or.inr rfl)))) pss_nil))))))
      (pss_cons (ps_if (pt_not (pt_val (pe_dcall D_u_law_same hr (by rfl) (pa_cons (pe_dcall D_neighbours (hr.mono (by decide)) (by rfl) (pa_cons (pv 3) (pa_cons (pv 4) (pa_cons (pv 5) pa_nil)))) (pa_cons (pe_tup (pa_cons (pv 6) (pa_cons (pv 7) pa_nil))) pa_nil))))) (pss_one (ps_ret pe_bl)) pss_nil)
      (pss_cons (ps_if (PW.pt (pw_or (PW.pt (pw_and (pt_cmpR (k_neD (K := K) rfl hr.units) (pv 6) (pv 7) (nomark _)) (pw_and1 (pt_cmpR (k_neD (K := K) rfl hr.units) (pe_op op_sub (pe_op op_mul (pe_ix (k_ix (K := K) rfl) (pv 7) pe_int (fun _ _ => rfl)) (pe_ix (k_ix (K := K) rfl) (pv 6) pe_int (fun _ _ => rfl))) (pe_op op_mul (pe_ix (k_ix (K := K) rfl) (pv 6) pe_int (fun _ _ => rfl)) (pe_ix (k_ix (K := K) rfl) (pv 7) pe_int (fun _ _ => rfl)))) pe_int (nomark _))))) (pw_or1 (PW.pt (pw_and (pt_cmpR (k_eqD (K := K) rfl hr.units) (pv 6) (pv 7) (nomark _)) (pw_and1 (pt_cmpR (k_neD (K := K) rfl hr.units) (pe_op op_mul (pe_ix (k_ix (K := K) rfl) (pv 6) pe_int (fun _ _ => rfl)) (pv 4)) (pe_op op_mul (pv 3) (pe_ix (k_ix (K := K) rfl) (pv 6) pe_int (fun _ _ => rfl))) (nomark _)))))))) (pss_one (ps_ret pe_bl)) pss_nil)
      (pss_cons (ps_asg (pe_op op_mul (pe_op op_sub (pe_op op_mul (pv 3) (pe_ix (k_ix (K := K) rfl) (pv 6) pe_int (fun _ _ => rfl))) (pe_op op_mul (pe_ix (k_ix (K := K) rfl) (pv 6) pe_int (fun _ _ => rfl)) (pv 4))) (pe_ix (k_ix (K := K) rfl) (pv 7) pe_int (fun _ _ => rfl))) (pg_name (i := 11) sc_law.nd rfl (by first | exact Or.inl rfl | exact Or.inr rfl)))
      (pss_cons (ps_asg (pe_op op_mul (pe_op op_sub (pe_op op_mul (pe_ix (k_ix (K := K) rfl) (pv 7) pe_int (fun _ _ => rfl)) (pv 4)) (pe_op op_mul (pv 3) (pe_ix (k_ix (K := K) rfl) (pv 7) pe_int (fun _ _ => rfl)))) (pe_ix (k_ix (K := K) rfl) (pv 6) pe_int (fun _ _ => rfl))) (pg_name (i := 12) sc_law.nd rfl (by first | exact Or.inl rfl | exact Or.inr rfl)))
      (pss_cons (ps_asg (pe_ifExp (PW.pt (pw_or (pt_cmpR op_lt (pv 11) (pv 12) (nomark _)) (pw_or1 (PW.pt (pw_and (pt_cmpR (k_eqD (K := K) rfl hr.units) (pv 11) (pv 12) (nomark _)) (pw_and1 (pt_cmpR op_le (pe_ix (k_ix (K := K) rfl) (pv 6) pe_int (fun _ _ => rfl)) (pe_ix (k_ix (K := K) rfl) (pv 7) pe_int (fun _ _ => rfl)) (nomark _)))))))) (pv 6) (pv 7)) (pg_name (i := 13) sc_law.nd rfl (by first | exact Or.inl rfl | exact Or.inr rfl)))
      (pss_cons (ps_if (pt_not (pt_val (pe_dcall D_u_law_same hr (by rfl) (pa_cons (pe_dcall D_nearest hr (by rfl) (pa_cons (pv 3) (pa_cons (pv 4) (pa_cons (pv 5) pa_nil)))) (pa_cons (pv 13) pa_nil))))) (pss_one (ps_ret pe_bl)) pss_nil)
      (pss_cons (ps_asg (pe_lst pa_nil) (pg_name (i := 14) sc_law.nd rfl (by first | exact Or.inl rfl | exact Or.inr rfl)))
      (pss_cons (ps_par (i := 15) (j := 16) (by rfl) sc_law.nd rfl rfl (by decide) rfl rfl (pa_cons (pv 3) (pa_cons (pv 4) pa_nil)) (by rfl))
      (pss_cons (ps_while PassesOwn.never (pt_cmpR op_gt (pv 16) pe_int (nomark _)) (pss_cons (ps_expr (k_bm (K := K) rfl (pe_bm PySem.F.plainAttrs_list PySem.F.slot_list_append PySem.F.type_list_append mt_append (pv 14) (pa_cons (pe_op op_fdivW (pv 15) (pv 16)) pa_nil))))
      (pss_one (ps_par (i := 15) (j := 16) (by rfl) sc_law.nd rfl rfl (by decide) rfl rfl (pa_cons (pv 16) (pa_cons (pe_op op_sub (pv 15) (pe_op op_mul (pe_op op_fdivW (pv 15) (pv 16)) (pv 16))) pa_nil)) (by rfl)))))
      (pss_cons (ps_asg (pe_dcall D_u_law_common (hr.mono (by decide)) (by rfl) (pa_cons (pv 3) (pa_cons (pv 4) pa_nil))) (pg_name (i := 17) sc_law.nd rfl (by first | exact Or.inl rfl | exact Or.inr rfl)))
      (pss_cons (ps_if (pt_not (pt_val (pe_dcall D_u_law_same hr (by rfl) (pa_cons (pe_lst (pa_cons (pe_dcall D_parts_of_fraction (hr.mono (by decide)) (by rfl) (pa_cons (pv 3) (pa_cons (pv 4) pa_nil))) (pa_cons (pe_dcall D_fraction_of (hr.mono (by decide)) (by rfl) (pa_cons (pe_callTy (k_tuple (K := K) rfl) (by rfl) B.b_tuple (by decide +kernel) (pa_cons (pv 14) pa_nil)) pa_nil)) pa_nil))) (pa_cons (pe_lst (pa_cons (pv 14) (pa_cons (pe_tup (pa_cons (pe_op op_fdivW (pv 3) (pv 17)) (pa_cons (pe_op op_fdivW (pv 4) (pv 17)) pa_nil))) pa_nil))) pa_nil))))) (pss_one (ps_ret pe_bl)) pss_nil)
      (pss_cons (ps_asg (pe_op (k_addA (K := K) rfl) (pe_tup (pa_cons (pe_dcall D_u_law_draw (hr.mono (by decide)) (by rfl) (pa_cons (pv 1) (pa_cons pe_int pa_nil))) pa_nil)) (pe_callTy (k_tuple (K := K) rfl) (by rfl) B.b_tuple (by decide +kernel) (pa_cons (pe_lc (own := [("j", 18)]) rfl sc_law.nd (pi_range1 (by rfl) B.b_range (pa_cons (pe_dcall D_u_law_draw (hr.mono (by decide)) (by rfl) (pa_cons (pv 1) (pa_cons pe_int pa_nil))) pa_nil)) (blkOk_by (N := ["script", "pool", "k", "p", "q", "b", "low", "high", "d", "one", "two", "mine", "yours", "due", "parts", "x", "y", "common", "j", "row", "a"]) (sc := defScope s_law) (by decide +kernel)) (fun _ _ _ _ _ => (pg_name (i := 18) sc_law.nd rfl (by first | exact Or.inl rfl | exact Or.inr rfl))) (fun _ _ _ _ _ => pts_nil) (fun _ _ _ _ _ => (pe_op (k_addA (K := K) rfl) pe_int (pe_dcall D_u_law_draw (hr.mono (by decide)) (by rfl) (pa_cons (pv 1) (pa_cons pe_int pa_nil)))))) pa_nil))) (pg_name (i := 19) sc_law.nd rfl (by first | exact Or.inl rfl | exact Or.inr rfl)))
      (pss_cons (ps_asg (pe_tup (pa_cons pe_int (pa_cons pe_int pa_nil))) (k_gtup (K := K) (n := 2) rfl rfl (pgs_cons (pg_name (i := 15) sc_law.nd rfl (by first | exact Or.inl rfl | exact Or.inr rfl)) (pgs_cons (pg_name (i := 16) sc_law.nd rfl (by first | exact Or.inl rfl | exact Or.inr rfl)) pgs_nil))))
      (pss_cons (ps_for PassesOwn.never rfl (k_seq (K := K) rfl (k_back (K := K) rfl (pv 19))) (pg_name (i := 20) sc_law.nd rfl (by first | exact Or.inl rfl | exact Or.inr rfl)) (pss_one (ps_par (i := 15) (j := 16) (by rfl) sc_law.nd rfl rfl (by decide) rfl rfl (pa_cons (pe_op (k_addA (K := K) rfl) (pe_op op_mul (pv 20) (pv 15)) (pv 16)) (pa_cons (pv 15) pa_nil)) (by rfl))))
      (pss_one (ps_if (pt_not (pt_val (pe_dcall D_u_law_same hr (by rfl) (pa_cons (pe_dcall D_fraction_of (hr.mono (by decide)) (by rfl) (pa_cons (pv 19) pa_nil)) (pa_cons (pe_tup (pa_cons (pv 15) (pa_cons (pv 16) pa_nil))) pa_nil))))) (pss_one (ps_ret pe_bl)) pss_nil))))))))))))))))))))))
      (pss_one (ps_ret pe_bl)))), fun C xs hn hp => ?_⟩
  obtain ⟨ns, rfl⟩ := hp
  change ST C _ [some (.d (.list (ns.map .int))), none, none, none, none, none, none, none, none, none, none, none, none, none, none, none, none, none, none, none, none] [] _
  repeat' walk_at "g1"
  refine cl_ct rfl ⟨ns, rfl⟩ ?_
  rintro y F' ⟨pp, mo, rfl, hpool, rfl⟩ _
  dsimp only [List.cons_append, List.nil_append]
  repeat' walk_at "g1"
  refine st_for (it_rng1 ?_)
  repeat' walk_at "g1"
  refine ⟨by decide, ?_⟩
  refine ⟨fun i S F => ∃ (R : SS) (mo : MO), S = some (.d (.list (ns.map .int))) :: some (.m pp) :: R ∧ R.length = 19 ∧ F = [(pp, mo)] ∧ isPool mo, ⟨_, mo, rfl, rfl, rfl, hpool⟩, ?_, ?_⟩
  · rintro i y S F hi ⟨R, mo, rfl, hR, rfl, hpool⟩
    refine tg_name ?_
    refine st_keep 2 ?_
    rw [show (some (SV.d (.list (ns.map .int))) :: some (.m pp) :: R).set 2 (some y) = some (SV.d (.list (ns.map .int))) :: some (.m pp) :: R.set 0 (some y) from rfl, keep2 (n := 19) (by rw [List.length_set]; exact hR)]
    change ST C _ [some (.d (.list (ns.map .int))), some (.m pp), none, none, none, none, none, none, none, none, none, none, none, none, none, none, none, none, none, none, none] _ _
    refine st_cut (fun S F => ∃ p mo, (1 ≤ p ∧ p ≤ 1000000000000) ∧ S = [some (.d (.list (ns.map .int))), some (.m pp), none, some (dI p), none, none, none, none, none, none, none, none, none, none, none, none, none, none, none, none, none] ∧ F = [(pp, mo)] ∧ isPool mo) ?_ ?_
    · repeat' walk_at "g1"
      refine cl_draw1 hpool (by omega) fun v mo hv0 hv1 hpool => ?_
      refine ro_ixA hv0 (by show v < 3; exact hv1) fun d hd => ?_
      have hd2 : ∃ m : Int, d = .int m ∧ 0 < m ∧ m ≤ 1000000000000 := by
        simp only [List.mem_cons, List.not_mem_nil, or_false] at hd
        rcases hd with rfl | rfl | rfl
        · exact ⟨_, rfl, by decide, by decide⟩
        · exact ⟨_, rfl, by decide, by decide⟩
        · exact ⟨_, rfl, by decide, by decide⟩
      obtain ⟨m, rfl, hm0, hm1⟩ := hd2
      repeat' walk_at "g1"
      refine cl_draw1 hpool (by omega) fun w mo hw0 hw1 hq => ?_
      repeat' walk_at "g1"
      exact ⟨_, _, ⟨by omega, by omega⟩, rfl, rfl, hq⟩
    rintro S F ⟨p, mo, hp, rfl, rfl, hpool⟩
    refine st_cut (fun S F => ∃ q mo, (1 ≤ q ∧ q ≤ 1000000000000) ∧ S = [some (.d (.list (ns.map .int))), some (.m pp), none, some (dI p), some (dI q), none, none, none, none, none, none, none, none, none, none, none, none, none, none, none, none] ∧ F = [(pp, mo)] ∧ isPool mo) ?_ ?_
    · repeat' walk_at "g1"
      refine cl_draw1 hpool (by omega) fun v mo hv0 hv1 hpool => ?_
      refine ro_ixA hv0 (by show v < 3; exact hv1) fun d hd => ?_
      have hd2 : ∃ m : Int, d = .int m ∧ 0 < m ∧ m ≤ 1000000000000 := by
        simp only [List.mem_cons, List.not_mem_nil, or_false] at hd
        rcases hd with rfl | rfl | rfl
        · exact ⟨_, rfl, by decide, by decide⟩
        · exact ⟨_, rfl, by decide, by decide⟩
        · exact ⟨_, rfl, by decide, by decide⟩
      obtain ⟨m, rfl, hm0, hm1⟩ := hd2
      repeat' walk_at "g1"
      refine cl_draw1 hpool (by omega) fun w mo hw0 hw1 hq => ?_
      repeat' walk_at "g1"
      exact ⟨_, _, ⟨by omega, by omega⟩, rfl, rfl, hq⟩
    rintro S F ⟨q, mo, hq, rfl, rfl, hpool⟩
    repeat' walk_at "g1"
    refine cl_draw1 hpool (by omega) fun v mo hv0 hv1 hpool => ?_
    repeat' walk_at "g1"
    have hb : 1 ≤ 1 + v ∧ 1 + v ≤ 18 := by omega
    generalize 1 + v = b at hb ⊢
    clear hv0 hv1
    refine st_for (it_rng2 ?_)
    repeat' walk_at "g1"
    refine ⟨⟨by decide, by decide, by omega, by omega⟩, ?_⟩
    refine ⟨fun i S F => ∃ u v w : Option SV, S = [some (.d (.list (ns.map .int))), some (.m pp), none, some (dI p), some (dI q), some (dI b), some (.d (pr (lowF p q (i - 1)))), some (.d (pr (upF p q (i - 1)))), u, v, w, none, none, none, none, none, none, none, none, none, none] ∧ F = [(pp, mo)] ∧ i ≤ b.toNat, ⟨_, _, _, by rw [Int.zero_sub, Int.zero_sub]; rfl, rfl, Nat.zero_le _⟩, ?_, ?_⟩
    · rintro i y S F hi ⟨u, v, w, rfl, rfl, hib⟩
      obtain ⟨hi2, rfl⟩ := rg_get hi
      have okl := (low_ok (p := p) (q := q) (i - 1)).1
      have oku := (up_ok (p := p) (q := q) (i - 1)).1
      repeat' walk_at "g1"
      all_goals
        rename_i h1 h2 h3
        have el := lowS (p := p) (q := q) (i := i)
        have eu := upS (p := p) (q := q) (i := i) hq.1
        simp only [h1, h2, h3, ↓reduceIte] at el eu
        rw [Nat.add_sub_cancel, el, eu]
        exact ⟨_, _, _, rfl, rfl, by omega⟩
    · rintro S F ⟨u, v, w, rfl, rfl, hib⟩
      refine st_keep 8 ?_
      rw [rg_len, show (b + 1 - 1).toNat - 1 = (b - 1).toNat by omega]
      have okl := (low_ok (p := p) (q := q) (b - 1).toNat).1
      have oku := (up_ok (p := p) (q := q) (b - 1).toNat).1
      have hnr := near (p := p) (q := q) (by omega) (by omega) (b - 1).toNat
      change ST C _ [some (.d (.list (ns.map .int))), some (.m pp), none, some (dI p), some (dI q), some (dI b), some (.d (pr (lowF p q (b - 1).toNat))), some (.d (pr (upF p q (b - 1).toNat))), none, none, none, none, none, none, none, none, none, none, none, none, none] _ _
      repeat' walk_at "g1"
      refine cl_ct rfl ⟨_, _, _, rfl, hp, hq, by omega, by omega⟩ ?_
      rintro y F' ⟨rfl, rfl⟩ _
      dsimp only [List.nil_append]
      repeat' walk_at "g1"
      refine cl_same_yes rfl okPP (by decide) (by decide) ?_
      repeat' walk_at "g0"
      have sl : SeqAt.shaped (pr (lowF p q (b - 1).toNat)) = true := (okP (n := 0)).shaped (by decide)
      have su : SeqAt.shaped (pr (upF p q (b - 1).toNat)) = true := (okP (n := 0)).shaped (by decide)
      refine st_cut (fun S F => S = [some (.d (.list (ns.map .int))), some (.m pp), none, some (dI p), some (dI q), some (dI b), some (.d (pr (lowF p q (b - 1).toNat))), some (.d (pr (upF p q (b - 1).toNat))), none, none, none, none, none, none, none, none, none, none, none, none, none] ∧ F = [(pp, mo)]) ?_ ?_
      · rcases hnr with ⟨he, hq3⟩ | ⟨he, hdet⟩
        · repeat' walk_at "g1"
          refine ro_neD sl su ?_
          rw [eqv_pr, decide_eq_true he, Bool.not_true]
          repeat' walk_at "g1"
          refine ro_eqD sl su ?_
          rw [eqv_pr, decide_eq_true he]
          repeat' walk_at "g1"
          all_goals first | exact ⟨rfl, rfl⟩ | contradiction
        · repeat' walk_at "g1"
          refine ro_neD sl su ?_
          rw [eqv_pr, decide_eq_false he, Bool.not_false]
          repeat' walk_at "g1"
          · contradiction
          refine ro_eqD sl su ?_
          rw [eqv_pr, decide_eq_false he]
          repeat' walk_at "g1"
          all_goals first | exact ⟨rfl, rfl⟩ | contradiction
      rintro S F ⟨rfl, rfl⟩
      repeat' walk_at "g0"
      refine st_seq ?_
      repeat' walk_at "g0"
      refine st_seq ?_
      repeat' walk_at "g0"
      refine st_cut (fun S F => ∃ m1 m2 : Option SV, S = [some (.d (.list (ns.map .int))), some (.m pp), none, some (dI p), some (dI q), some (dI b), some (.d (pr (lowF p q (b - 1).toNat))), some (.d (pr (upF p q (b - 1).toNat))), none, none, none, m1, m2, some (.d (pr (nearF p q (b - 1).toNat))), none, none, none, none, none, none, none] ∧ F = [(pp, mo)]) ?_ ?_
      · repeat' walk_at "g1"
        · rw [show nearF p q (b - 1).toNat = lowF p q (b - 1).toNat from if_pos (by first | exact .inl (by assumption) | exact .inr ⟨by assumption, by assumption⟩)]
          exact ⟨_, _, rfl, rfl⟩
        · rw [show nearF p q (b - 1).toNat = lowF p q (b - 1).toNat from if_pos (by first | exact .inl (by assumption) | exact .inr ⟨by assumption, by assumption⟩)]
          exact ⟨_, _, rfl, rfl⟩
        · rw [show nearF p q (b - 1).toNat = upF p q (b - 1).toNat from if_neg fun z => z.elim (by assumption) fun z => by first | exact absurd z.1 (by assumption) | exact absurd z.2 (by assumption)]
          exact ⟨_, _, rfl, rfl⟩
        · rw [show nearF p q (b - 1).toNat = upF p q (b - 1).toNat from if_neg fun z => z.elim (by assumption) fun z => by first | exact absurd z.1 (by assumption) | exact absurd z.2 (by assumption)]
          exact ⟨_, _, rfl, rfl⟩
      rintro S F ⟨m1, m2, rfl, rfl⟩
      repeat' walk_at "g1"
      refine cl_ct rfl ⟨_, _, _, rfl, hp, hq, by omega, by omega⟩ ?_
      rintro y F' ⟨rfl, rfl⟩ _
      dsimp only [List.nil_append]
      repeat' walk_at "g1"
      refine cl_same_yes rfl (okP (n := 0)) (by decide) (by decide) ?_
      repeat' walk_at "g0"
      refine st_keep 6 ?_
      obtain ⟨p, rfl⟩ := Int.eq_ofNat_of_zero_le (show 0 ≤ p by omega)
      obtain ⟨q, rfl⟩ := Int.eq_ofNat_of_zero_le (show 0 ≤ q by omega)
      change ST C _ [some (.d (.list (ns.map .int))), some (.m pp), none, some (dI p), some (dI q), some (dI b), none, none, none, none, none, none, none, none, none, none, none, none, none, none, none] _ _
      refine st_seq ?_
      repeat' walk_at "g0"
      refine tj_lst ?_
      repeat' walk_at "g0"
      refine ⟨by decide, fun l hl => ?_⟩
      have hlp : pp ≠ l := fun z => hl (by subst z; exact List.mem_cons_self)
      repeat' walk_at "g0"
      refine st_seq ?_
      repeat' walk_at "g0"
      refine st_cut (fun S F => ∃ x y : Option SV, S = [some (.d (.list (ns.map .int))), some (.m pp), none, some (dI p), some (dI q), some (dI b), none, none, none, none, none, none, none, none, some (.m l), x, y, none, none, none, none] ∧ F = [(l, .lst ((cf p q).map fun z => dI (z : Nat))), (pp, mo)]) ?_ ?_
      · refine st_while (fun m S F => ∃ (x y : Nat) (zs : List Nat), m = y ∧ S = [some (.d (.list (ns.map .int))), some (.m pp), none, some (dI p), some (dI q), some (dI b), none, none, none, none, none, none, none, none, some (.m l), some (dI x), some (dI y), none, none, none, none] ∧ F = [(l, .lst (zs.map fun z => dI (z : Nat))), (pp, mo)] ∧ zs ++ cf x y = cf p q ∧ y ≤ q) ⟨q, p, q, [], rfl, rfl, rfl, rfl, Nat.le_refl _⟩ ?_
        rintro y S F ⟨x, _, zs, rfl, rfl, rfl, hz, hyq⟩
        have hlen : zs.length ≤ 2 * 40 + 1 := by
          have h1 := cf_len2 40 p q (by omega)
          rw [← hz, List.length_append] at h1
          omega
        repeat' walk_at "g1"
        · rename_i hc
          have hy : y ≠ 0 := by omega
          refine app_go2 (xs := zs.map fun z => dI (z : Nat)) (List.Mem.head _) (by rw [List.length_map]; omega) ?_
          rw [setF_head hl]
          repeat' walk_at "g1"
          have hm : x % y < y := Nat.mod_lt _ (by omega)
          have e : (x : Int) - (x : Int) / (y : Int) * (y : Int) = ((x % y : Nat) : Int) := by rw [Int.mul_comm, ← Int.emod_def, mod_nat]
          refine ⟨x % y, hm, y, x % y, zs ++ [x / y], rfl, by rw [e], by rw [List.map_append, div_nat]; rfl, ?_, by omega⟩
          rw [List.append_assoc, ← hz, cf_pos hy]
          rfl
        · rename_i hc
          have hy : y = 0 := by omega
          subst hy
          rw [cf_zero, List.append_nil] at hz
          subst hz
          rfl
      rintro S F ⟨x, y, rfl, rfl⟩
      refine st_freeze (a := l) (ds := (cf p q).map fun z => .int (z : Nat)) (by rw [List.map_map]; exact List.Mem.head _) ?_
      rw [show [(l, MO.lst ((cf p q).map fun z => dI (z : Nat))), (pp, mo)].filter (fun q => decide (q.1 ≠ l)) = [(pp, mo)] by simp [hlp]]
      refine st_keep 15 ?_
      rw [show keepS 15 ([some (SV.d (.list (ns.map .int))), some (.m pp), none, some (dI p), some (dI q), some (dI b), none, none, none, none, none, none, none, none, some (.m l), x, y, none, none, none, none].map fun o => o.map (frzS l (.list ((cf p q).map fun z => .int (z : Nat))))) = [some (.d (.list (ns.map .int))), some (.m pp), none, some (dI p), some (dI q), some (dI b), none, none, none, none, none, none, none, none, some (.d (.list ((cf p q).map fun z => .int (z : Nat)))), none, none, none, none, none, none] by simp [keepS, frzS, hlp]]
      repeat' walk_at "g1"
      refine cl_ct rfl ⟨_, _, rfl, Nat.lt_of_le_of_lt (show q ≤ 2 ^ 40 by omega) (by decide +kernel)⟩ ?_
      rintro y F' ⟨rfl, rfl⟩ _
      dsimp only [List.nil_append]
      have hg0 : 0 < Nat.gcd p q := Nat.gcd_pos_of_pos_left _ (by omega)
      have hg1 : Nat.gcd p q ≤ q := Nat.gcd_le_right _ (by omega)
      have hg2 : ∀ z ∈ cf p q, z ≤ max p q := cf_le q p
      have hln : (cf p q).length ≤ 2 * 40 + 1 := cf_len2 40 p q (by omega)
      have em : (cf p q).map (fun z => PyData.int (z : Nat)) = ((cf p q).map Int.ofNat).map .int := by rw [List.map_map]; rfl
      repeat' walk_at "g0"
      refine st_cut (fun S F => S = [some (.d (.list (ns.map .int))), some (.m pp), none, some (dI p), some (dI q), some (dI b), none, none, none, none, none, none, none, none, some (.d (.list ((cf p q).map fun z => .int (z : Nat)))), none, none, some (dI (Nat.gcd p q : Nat)), none, none, none] ∧ F = [(pp, mo)]) ?_ ?_
      · repeat' walk_at "g1"
        refine tj_lstD ?_
        repeat' walk_at "g1"
        refine cl_ct rfl ⟨p, q, rfl, by omega⟩ ?_
        rintro y F' ⟨rfl, rfl⟩ _
        dsimp only [List.nil_append]
        rw [Int.toNat_natCast, Int.toNat_natCast]
        repeat' walk_at "g1"
        refine rc_tupleD (.inl rfl) ?_
        repeat' walk_at "g1"
        rw [em]
        refine cl_ct rfl ⟨_, rfl, ?_⟩ ?_
        · refine ⟨by rw [List.length_map]; omega, fun n hn => ?_⟩
          obtain ⟨z, hz, rfl⟩ := List.mem_map.mp hn
          have := hg2 z hz
          show -18446744073709551616 < (z : Int) ∧ (z : Int) < 18446744073709551616
          omega
        rintro y F' ⟨rfl, ns', he, rfl⟩ _
        dsimp only [List.nil_append]
        have hns : ns' = (cf p q).map Int.ofNat := (int_inj (by simpa using he)).symm
        subst hns
        rw [evF_cf q p (by omega)]
        repeat' walk_at "g1"
        refine tj_lstD ?_
        have hg3 : 0 < Int.gcd (p : Int) (q : Int) ∧ Int.gcd (p : Int) (q : Int) ≤ q := ⟨hg0, hg1⟩
        repeat' walk_at "g1"
        refine cl_same_yes (by rw [div_nat, div_nat]; rfl) (k := 2) (.lst (by show 2 < 16000000; decide) (okCons (.lst (by rw [List.length_map, List.length_map]; omega) okInts) (okCons okP okNil))) (by decide) (by decide) ?_
        repeat' walk_at "g1"
        exact ⟨rfl, rfl⟩
      rintro S F ⟨rfl, rfl⟩
      repeat' walk_at "g0"
      refine st_keep 2 ?_
      change ST C _ [some (.d (.list (ns.map .int))), some (.m pp), none, none, none, none, none, none, none, none, none, none, none, none, none, none, none, none, none, none, none] _ _
      refine st_cut (fun S F => ∃ (as : List Int) (D : Addr) (o mo : MO), S = [some (.d (.list (ns.map .int))), some (.m pp), none, none, none, none, none, none, none, none, none, none, none, none, none, none, none, none, none, some (.d (.tuple (as.map .int))), none] ∧ F = [(D, o), (pp, mo)] ∧ isPool mo ∧ as.length ≤ 10 ∧ ∀ a ∈ as, 0 ≤ a ∧ a ≤ 5) ?_ ?_
      · repeat' walk_at "g1"
        refine cl_draw1 hpool (by omega) fun v mo hv0 hv1 hpool => ?_
        repeat' walk_at "g1"
        refine tj_lc (wok_name (by simp)) (it_rng1 ?_)
        repeat' walk_at "g1"
        refine cl_draw1 hpool (by omega) fun w mo hw0 hw1 hpool => ?_
        repeat' walk_at "g1"
        refine ⟨⟨by omega, by omega⟩, fun D hD => ⟨fun i acc F' => ∃ (as : List Int) (mo : MO), acc = as.map dI ∧ as.length = i ∧ (∀ a ∈ as, 0 ≤ a ∧ a ≤ 5) ∧ F' = [(pp, mo)] ∧ isPool mo, ⟨[], mo, rfl, rfl, (fun _ h => nomatch h), rfl, hpool⟩, ?_, ?_⟩⟩
        · rintro i y acc F' hi ⟨as, mo, rfl, hal, hab, rfl, hpool⟩
          have hDp : pp ≠ D := fun z => hD (by subst z; exact List.mem_cons_self)
          obtain ⟨hi2, rfl⟩ := rg_get hi
          repeat' walk_at "g1"
          refine cl_draw2 hDp hpool (by omega) fun u mo hu0 hu1 hpool => ?_
          repeat' walk_at "g1"
          refine ⟨by rw [List.length_map]; omega, as ++ [1 + u], mo, by rw [List.map_append]; rfl, by simp [hal], fun a ha => ?_, rfl, hpool⟩
          rcases List.mem_append.mp ha with ha | ha
          · exact hab a ha
          · cases List.mem_singleton.mp ha
            omega
        · rintro acc F' ⟨as, mo, rfl, hal, hab, rfl, hpool⟩
          rw [rg_len] at hal
          repeat' walk_at "g1"
          refine rc_tupleM (ds := as.map .int) (by rw [List.map_map]; exact List.Mem.head _) ?_
          refine ro_addT (by simp; omega) ?_
          repeat' walk_at "g1"
          exact ⟨v :: as, D, _, mo, rfl, rfl, hpool, by simp; omega, fun a ha => by
            rcases List.mem_cons.mp ha with rfl | ha
            · omega
            · exact hab a ha⟩
      rintro S F ⟨as, D, o, mo, rfl, rfl, hpool, hal, hab⟩
      refine st_sub (F1 := [(pp, mo)]) (List.Sublist.cons _ (List.Sublist.refl _)) ?_
      repeat' walk_at "g1"
      refine st_for (it_seqT (tj_back ?_))
      repeat' walk_at "g1"
      refine .inl ⟨_, rfl, _, rfl, ?_⟩
      refine ⟨fun i S F => ∃ u : Option SV, S = [some (.d (.list (ns.map .int))), some (.m pp), none, none, none, none, none, none, none, none, none, none, none, none, none, some (dI (evF (as.drop (as.length - i))).1), some (dI (evF (as.drop (as.length - i))).2), none, none, some (.d (.tuple (as.map .int))), u] ∧ F = [(pp, mo)], ⟨none, by rw [Nat.sub_zero, List.drop_length]; rfl, rfl⟩, ?_, ?_⟩
      · rintro i y S F hi ⟨u, rfl, rfl⟩
        have hy : ∃ z, y = dI z ∧ z ∈ as ∧ as.reverse[i]? = some z := by
          rw [← List.map_reverse, List.map_map, List.getElem?_map] at hi
          obtain ⟨z, hz, rfl⟩ := Option.map_eq_some_iff.mp hi
          exact ⟨z, rfl, List.mem_reverse.mp (List.mem_of_getElem? hz), hz⟩
        obtain ⟨z, rfl, hz, hzi⟩ := hy
        have hb := hab z hz
        repeat' walk_at "g1"
        rw [drop_rev hzi]
        exact ⟨_, rfl, rfl⟩
      · rintro S F ⟨u, rfl, rfl⟩
        have e : as.length - (List.map SV.d (List.map PyData.int as).reverse).length = 0 := by simp
        rw [e, List.drop_zero]
        repeat' walk_at "g1"
        refine cl_ct rfl ⟨_, rfl, by omega, fun n hn => by have := hab n hn; omega⟩ ?_
        rintro y F' ⟨rfl, ns', he, rfl⟩ _
        dsimp only [List.nil_append]
        have hns : ns' = as := (int_inj (by simpa using he)).symm
        subst hns
        repeat' walk_at "g1"
        refine cl_same_yes rfl (okP (n := 0)) (by decide) (by decide) ?_
        repeat' walk_at "g1"
        exact ⟨_, _, rfl, rfl, rfl, hpool⟩
  · rintro S F ⟨R, mo, rfl, hR, rfl, hpool⟩
    repeat' walk_at "g1"
    exact ends_of ⟨rfl, rfl⟩

end
theorem all_mk {l : PySem.W.OpenLaw} {w : World} {K : PySem.W.Frag} {h : Heap} {mg : Str → Option Value} {fa : Addr} (X : K.In h) (G : h.Ns mainGlobals mg) (hfa : mg "law" = some (.ref fa)) (B : Bt mg)
    (h_less : FnAt K "less" s_less) (h_lower_neighbour : FnAt K "lower_neighbour" s_lower_neighbour) (h_upper_neighbour : FnAt K "upper_neighbour" s_upper_neighbour) (h_neighbours : FnAt K "neighbours" s_neighbours) (h_apart : FnAt K "apart" s_apart) (h_nearest : FnAt K "nearest" s_nearest) (h_parts_of_fraction : FnAt K "parts_of_fraction" s_parts_of_fraction) (h_fraction_of : FnAt K "fraction_of" s_fraction_of) (h_u_law_same : FnAt K "_law_same" s_u_law_same) (h_u_law_pool : FnAt K "_law_pool" s_u_law_pool) (h_u_law_spread : FnAt K "_law_spread" s_u_law_spread) (h_u_law_draw : FnAt K "_law_draw" s_u_law_draw) (h_u_law_common : FnAt K "_law_common" s_u_law_common) (h_law : FnAt K "law" s_law) :
    ∃ fd : FuncData, (∀ (s : Shared) (v : Value), BindsTo s fd ⟨[v], []⟩ [("script", v)]) ∧ ∀ base : Heap, K.In base → base.Ns mainGlobals mg → FnOk l.prog w K mg base CX0 5 fa fd ["script"] (c_law.sp K []) := by
  obtain ⟨f_less, kV_less, dc_less, pm_less, an_less, cd_less, ct_less, F_less, m_less⟩ := fn_at X G h_less
  have b_less := F_less.binds (ps := ["one", "two"]) fun _ _ _ _ _ _ us hl => match us, hl with | [_, _], _ => rfl
  obtain ⟨f_lower_neighbour, kV_lower_neighbour, dc_lower_neighbour, pm_lower_neighbour, an_lower_neighbour, cd_lower_neighbour, ct_lower_neighbour, F_lower_neighbour, m_lower_neighbour⟩ := fn_at X G h_lower_neighbour
  have b_lower_neighbour := F_lower_neighbour.binds (ps := ["p", "q", "b"]) fun _ _ _ _ _ _ us hl => match us, hl with | [_, _, _], _ => rfl
  obtain ⟨f_upper_neighbour, kV_upper_neighbour, dc_upper_neighbour, pm_upper_neighbour, an_upper_neighbour, cd_upper_neighbour, ct_upper_neighbour, F_upper_neighbour, m_upper_neighbour⟩ := fn_at X G h_upper_neighbour
  have b_upper_neighbour := F_upper_neighbour.binds (ps := ["p", "q", "b"]) fun _ _ _ _ _ _ us hl => match us, hl with | [_, _, _], _ => rfl
  obtain ⟨f_neighbours, kV_neighbours, dc_neighbours, pm_neighbours, an_neighbours, cd_neighbours, ct_neighbours, F_neighbours, m_neighbours⟩ := fn_at X G h_neighbours
  have b_neighbours := F_neighbours.binds (ps := ["p", "q", "b"]) fun _ _ _ _ _ _ us hl => match us, hl with | [_, _, _], _ => rfl
  obtain ⟨f_apart, kV_apart, dc_apart, pm_apart, an_apart, cd_apart, ct_apart, F_apart, m_apart⟩ := fn_at X G h_apart
  have b_apart := F_apart.binds (ps := ["p", "q", "one"]) fun _ _ _ _ _ _ us hl => match us, hl with | [_, _, _], _ => rfl
  obtain ⟨f_nearest, kV_nearest, dc_nearest, pm_nearest, an_nearest, cd_nearest, ct_nearest, F_nearest, m_nearest⟩ := fn_at X G h_nearest
  have b_nearest := F_nearest.binds (ps := ["p", "q", "b"]) fun _ _ _ _ _ _ us hl => match us, hl with | [_, _, _], _ => rfl
  obtain ⟨f_parts_of_fraction, kV_parts_of_fraction, dc_parts_of_fraction, pm_parts_of_fraction, an_parts_of_fraction, cd_parts_of_fraction, ct_parts_of_fraction, F_parts_of_fraction, m_parts_of_fraction⟩ := fn_at X G h_parts_of_fraction
  have b_parts_of_fraction := F_parts_of_fraction.binds (ps := ["p", "q"]) fun _ _ _ _ _ _ us hl => match us, hl with | [_, _], _ => rfl
  obtain ⟨f_fraction_of, kV_fraction_of, dc_fraction_of, pm_fraction_of, an_fraction_of, cd_fraction_of, ct_fraction_of, F_fraction_of, m_fraction_of⟩ := fn_at X G h_fraction_of
  have b_fraction_of := F_fraction_of.binds (ps := ["parts"]) fun _ _ _ _ _ _ us hl => match us, hl with | [_], _ => rfl
  obtain ⟨f_u_law_same, kV_u_law_same, dc_u_law_same, pm_u_law_same, an_u_law_same, cd_u_law_same, ct_u_law_same, F_u_law_same, m_u_law_same⟩ := fn_at X G h_u_law_same
  have b_u_law_same := F_u_law_same.binds (ps := ["actual", "due"]) fun _ _ _ _ _ _ us hl => match us, hl with | [_, _], _ => rfl
  obtain ⟨f_u_law_pool, kV_u_law_pool, dc_u_law_pool, pm_u_law_pool, an_u_law_pool, cd_u_law_pool, ct_u_law_pool, F_u_law_pool, m_u_law_pool⟩ := fn_at X G h_u_law_pool
  have b_u_law_pool := F_u_law_pool.binds (ps := ["script"]) fun _ _ _ _ _ _ us hl => match us, hl with | [_], _ => rfl
  obtain ⟨f_u_law_spread, kV_u_law_spread, dc_u_law_spread, pm_u_law_spread, an_u_law_spread, cd_u_law_spread, ct_u_law_spread, F_u_law_spread, m_u_law_spread⟩ := fn_at X G h_u_law_spread
  have b_u_law_spread := F_u_law_spread.binds (ps := ["cell"]) fun _ _ _ _ _ _ us hl => match us, hl with | [_], _ => rfl
  obtain ⟨f_u_law_draw, kV_u_law_draw, dc_u_law_draw, pm_u_law_draw, an_u_law_draw, cd_u_law_draw, ct_u_law_draw, F_u_law_draw, m_u_law_draw⟩ := fn_at X G h_u_law_draw
  have b_u_law_draw := F_u_law_draw.binds (ps := ["pool", "many"]) fun _ _ _ _ _ _ us hl => match us, hl with | [_, _], _ => rfl
  obtain ⟨f_u_law_common, kV_u_law_common, dc_u_law_common, pm_u_law_common, an_u_law_common, cd_u_law_common, ct_u_law_common, F_u_law_common, m_u_law_common⟩ := fn_at X G h_u_law_common
  have b_u_law_common := F_u_law_common.binds (ps := ["a", "b"]) fun _ _ _ _ _ _ us hl => match us, hl with | [_, _], _ => rfl
  obtain ⟨f_law, kV_law, dc_law, pm_law, an_law, cd_law, ct_law, F_law, m_law⟩ := fn_at X G h_law
  have e := hfa.symm.trans m_law
  cases e
  refine ⟨PySem.W.fnOf "law" "law" (defArgs s_law) (defBody s_law) (defScope s_law) .none kV_law dc_law pm_law an_law cd_law ct_law, fun s v => .of_eq rfl, fun base _ _ => ?_⟩
  have D_less : DefOk l.prog w K mg base 1 "less" ["one", "two"] ((c_less.sp K [])) := defok F_less (ok_less F_less B) m_less b_less
  have D_lower_neighbour : DefOk l.prog w K mg base 2 "lower_neighbour" ["p", "q", "b"] ((c_low.sp K [])) := defok F_lower_neighbour (ok_lower_neighbour F_lower_neighbour B D_less) m_lower_neighbour b_lower_neighbour
  have D_upper_neighbour : DefOk l.prog w K mg base 2 "upper_neighbour" ["p", "q", "b"] ((c_up.sp K [])) := defok F_upper_neighbour (ok_upper_neighbour F_upper_neighbour B D_less) m_upper_neighbour b_upper_neighbour
  have D_neighbours : DefOk l.prog w K mg base 3 "neighbours" ["p", "q", "b"] ((c_nb.sp K [])) := defok F_neighbours (ok_neighbours F_neighbours B D_lower_neighbour D_upper_neighbour) m_neighbours b_neighbours
  have D_apart : DefOk l.prog w K mg base 1 "apart" ["p", "q", "one"] ((c_apart.sp K [])) := defok F_apart (ok_apart F_apart B) m_apart b_apart
  have D_nearest : DefOk l.prog w K mg base 4 "nearest" ["p", "q", "b"] ((c_nearest.sp K [])) := defok F_nearest (ok_nearest F_nearest B D_neighbours D_apart D_less) m_nearest b_nearest
  have D_parts_of_fraction : DefOk l.prog w K mg base 1 "parts_of_fraction" ["p", "q"] ((c_parts.sp K [])) := defok F_parts_of_fraction (ok_parts_of_fraction F_parts_of_fraction B) m_parts_of_fraction b_parts_of_fraction
  have D_fraction_of : DefOk l.prog w K mg base 1 "fraction_of" ["parts"] ((c_frac.sp K [])) := defok F_fraction_of (ok_fraction_of F_fraction_of B) m_fraction_of b_fraction_of
  have D_u_law_same : DefOk l.prog w K mg base 4 "_law_same" ["actual", "due"] ((c_same 4).sp K []) := defok F_u_law_same (ok_u_law_same F_u_law_same B m_u_law_same b_u_law_same 4) m_u_law_same b_u_law_same
  have D_u_law_pool : DefOk l.prog w K mg base 1 "_law_pool" ["script"] ((c_pool.sp K [])) := defok F_u_law_pool (ok_u_law_pool F_u_law_pool B) m_u_law_pool b_u_law_pool
  have D_u_law_spread : DefOk l.prog w K mg base 1 "_law_spread" ["cell"] ((c_spread.sp K [])) := defok F_u_law_spread (ok_u_law_spread F_u_law_spread B) m_u_law_spread b_u_law_spread
  have D_u_law_draw : DefOk l.prog w K mg base 2 "_law_draw" ["pool", "many"] ((c_draw.sp K [])) := defok F_u_law_draw (ok_u_law_draw F_u_law_draw B D_u_law_spread) m_u_law_draw b_u_law_draw
  have D_u_law_common : DefOk l.prog w K mg base 1 "_law_common" ["a", "b"] ((c_common.sp K [])) := defok F_u_law_common (ok_u_law_common F_u_law_common B) m_u_law_common b_u_law_common
  exact ok_law F_law B D_u_law_pool D_u_law_common D_u_law_draw D_u_law_same D_neighbours D_nearest D_fraction_of D_parts_of_fraction
theorem walk {l : PySem.W.OpenLaw} {q : Program} {loose : List Str} {XP : (Str → Option Value) → Heap → Prop} {YP : World → Heap → Prop} {d : DefRec} {K : Params → PySem.W.Frag} (hn : l.most = some 63) (hdf : d.params.defaults = [])
    (hY : ∀ (w : World) (h : Heap), YP w h → (K w.params).In h)
    (F : ∀ (w : World) (mg : Str → Option Value) (fa : Addr) (h : Heap), (K w.params).In h → h.Ns mainGlobals mg → mg d.name = some (.ref fa) →
      ∃ fd : FuncData, (∀ (s : Shared) (u : Value), BindsTo s fd ⟨[u], []⟩ [("script", u)]) ∧ ∀ base : Heap, (K w.params).In base → base.Ns mainGlobals mg → FnOk l.prog w (K w.params) mg base CX0 5 fa fd ["script"] (c_law.sp (K w.params) [])) :
    PySem.W.WalkO q loose XP YP l.row.toRowW d [] (fun f vs => PySem.call f vs) :=
  L2.walk_of (n := 63) (k := 5) (x := "script") (CX := fun _ => CX0) (sp := fun w => c_law.sp (K w.params) []) hn (by decide) hdf ⟨rfl, by decide, by decide⟩ hY F (fun _ _ a ns hl _ hS => law_ready hS fun _ => rfl) fun _ _ _ _ _ z => z
end L_k80

open PySem PySem.W PyProof.Rows in
theorem PySem.Challenge.cw_semigrove_k80_whole_near_fractions_holds : PySem.Challenge.rw_semigrove_k80_whole_near_fractions.Holds := by
  w_on; o_law; k_head; (case hw => w_witness2)
  k_fill
  refine L_k80.walk (l := PySem.Challenge.rw_semigrove_k80_whole_near_fractions) rfl rfl (fun w h Y => PySem.W.kIn_of Y) ?F
  case F =>
    intro w mg fa h KX gg hmg
    refine' L_k80.all_mk KX gg hmg (L_k80.Bt.mk (PySem.W.mg_none_of KX gg ?z_range) (PySem.W.mg_none_of KX gg ?z_abs) (PySem.W.mg_none_of KX gg ?z_reversed) (PySem.W.mg_none_of KX gg ?z_isinstance) (PySem.W.mg_none_of KX gg ?z_int) (PySem.W.mg_none_of KX gg ?z_tuple) (PySem.W.mg_none_of KX gg ?z_list) (PySem.W.mg_none_of KX gg ?z_bool) (PySem.W.mg_none_of KX gg ?z_str) (PySem.W.mg_none_of KX gg ?z_len) (PySem.W.mg_of KX gg ?z_gcd)) (G.fn_mk ?a_less ?l_less ?c_less ?k_less) (G.fn_mk ?a_lower_neighbour ?l_lower_neighbour ?c_lower_neighbour ?k_lower_neighbour) (G.fn_mk ?a_upper_neighbour ?l_upper_neighbour ?c_upper_neighbour ?k_upper_neighbour) (G.fn_mk ?a_neighbours ?l_neighbours ?c_neighbours ?k_neighbours) (G.fn_mk ?a_apart ?l_apart ?c_apart ?k_apart) (G.fn_mk ?a_nearest ?l_nearest ?c_nearest ?k_nearest) (G.fn_mk ?a_parts_of_fraction ?l_parts_of_fraction ?c_parts_of_fraction ?k_parts_of_fraction) (G.fn_mk ?a_fraction_of ?l_fraction_of ?c_fraction_of ?k_fraction_of) (G.fn_mk ?a_u_law_same ?l_u_law_same ?c_u_law_same ?k_u_law_same) (G.fn_mk ?a_u_law_pool ?l_u_law_pool ?c_u_law_pool ?k_u_law_pool) (G.fn_mk ?a_u_law_spread ?l_u_law_spread ?c_u_law_spread ?k_u_law_spread) (G.fn_mk ?a_u_law_draw ?l_u_law_draw ?c_u_law_draw ?k_u_law_draw) (G.fn_mk ?a_u_law_common ?l_u_law_common ?c_u_law_common ?k_u_law_common) (G.fn_mk ?a_law ?l_law ?c_law ?k_law)
    (case z_range => k_is)
    (case z_abs => k_is)
    (case z_reversed => k_is)
    (case z_isinstance => k_is)
    (case z_int => k_is)
    (case z_tuple => k_is)
    (case z_list => k_is)
    (case z_bool => k_is)
    (case z_str => k_is)
    (case z_len => k_is)
    (case z_gcd => k_is)
    (case a_less => k_is)
    (case l_less => k_is)
    (case c_less => k_is)
    (case k_less => k_is)
    (case a_lower_neighbour => k_is)
    (case l_lower_neighbour => k_is)
    (case c_lower_neighbour => k_is)
    (case k_lower_neighbour => k_is)
    (case a_upper_neighbour => k_is)
    (case l_upper_neighbour => k_is)
    (case c_upper_neighbour => k_is)
    (case k_upper_neighbour => k_is)
    (case a_neighbours => k_is)
    (case l_neighbours => k_is)
    (case c_neighbours => k_is)
    (case k_neighbours => k_is)
    (case a_apart => k_is)
    (case l_apart => k_is)
    (case c_apart => k_is)
    (case k_apart => k_is)
    (case a_nearest => k_is)
    (case l_nearest => k_is)
    (case c_nearest => k_is)
    (case k_nearest => k_is)
    (case a_parts_of_fraction => k_is)
    (case l_parts_of_fraction => k_is)
    (case c_parts_of_fraction => k_is)
    (case k_parts_of_fraction => k_is)
    (case a_fraction_of => k_is)
    (case l_fraction_of => k_is)
    (case c_fraction_of => k_is)
    (case k_fraction_of => k_is)
    (case a_u_law_same => k_is)
    (case l_u_law_same => k_is)
    (case c_u_law_same => k_is)
    (case k_u_law_same => k_is)
    (case a_u_law_pool => k_is)
    (case l_u_law_pool => k_is)
    (case c_u_law_pool => k_is)
    (case k_u_law_pool => k_is)
    (case a_u_law_spread => k_is)
    (case l_u_law_spread => k_is)
    (case c_u_law_spread => k_is)
    (case k_u_law_spread => k_is)
    (case a_u_law_draw => k_is)
    (case l_u_law_draw => k_is)
    (case c_u_law_draw => k_is)
    (case k_u_law_draw => k_is)
    (case a_u_law_common => k_is)
    (case l_u_law_common => k_is)
    (case c_u_law_common => k_is)
    (case k_u_law_common => k_is)
    (case a_law => k_is)
    (case l_law => k_is)
    (case c_law => k_is)
    (case k_law => k_is)
