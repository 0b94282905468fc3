import PyProof.Rows.All
import Wide.All
import OpenK.AllK
import Wide.FinOn
import HandS.ForMost
import HandS.Wide
import HandS.Gcd
import HandS.IsInst
import HandS.Walk
import HandS.AnyAll
import HandS.Lambda
import HandS.TupAny
import HandS.TupLe
import HandS.Rev
import HandS.SortInts
import HandS.SetFor
import HandS.Strs
import HandS.Records
import HandS.TupMul
import HandS.Star
import HandS.Nested
import HandS.GenOver
import HandS.EndTab
import KE.KNest
import PyProof.TupleOfGen
import HandS.GenBody
import HandS.Zip
import PyProof.ReprRoads
import PyProof.ReprText
import PyProof.StrLawsRepr
import PyProof.FitsInt
import HandS.Dict
import HandS.RaiseMore
import PyProof.Rows.ReprOcc
import HandS.Style
import PySem.Challenge.RW_semigrove_k13_containing_judged
set_option Elab.async false
set_option linter.all false
set_option maxRecDepth 100000
set_option maxHeartbeats 8000000
/-! G: a symbolic layer over the hand layer. Values of a def's names are told as frozen data, frozen instances or owned mutable objects (SV);
the heap by its owned mutable objects alone (FP). -/
namespace G
open PySem L2

/-- a symbolic value -/
inductive SV where
  /-- frozen data -/
  | d (x : PyData)
  /-- a frozen instance of the class at C with fields of data -/
  | o (C : Addr) (fs : List (Str × PyData))
  /-- a raw value -/
  | v (x : V)
  /-- an owned mutable object, told in the footprint -/
  | m (a : Addr)
  /-- a value of which something is known (a function) -/
  | p (φ : Hp → V → Prop)
/-- what an owned object holds -/
inductive MO where
  | lst (xs : List SV)
  | ins (C dx : Addr) (fs : List (Str × SV))
/-- a table of code objects: of generator expressions (none), or of one lambda (its name) -/
abbrev Tb := Addr × Option Str
abbrev keysT (T : List Tb) : List Addr := T.map (·.1)
def TabQ (H : Hp) (p : Tb) : Prop := match p.2 with
  | none => GxR.TabG H p.1
  | some q => LamX.TabS H p.1 q
theorem TabQ.at_ {H : Hp} {p : Tb} (t : TabQ H p) : ∃ ps, H p.1 = some (.tbl ps) := by
  unfold TabQ at t
  split at t
  · exact ⟨_, t.choose_spec.1⟩
  · exact ⟨_, t.choose_spec.1⟩
theorem TabQ.step {H H' : Hp} {p : Tb} (t : TabQ H p) (h1 : H' p.1 = H p.1) (h2 : ∀ c q, H c = some (LamX.CodeO c q) → H' c = some (LamX.CodeO c q)) : TabQ H' p := by
  unfold TabQ at t ⊢
  split
  · rename_i e
    rw [e] at t
    obtain ⟨ps, e1, e2⟩ := t
    exact ⟨ps, h1.trans e1, e2⟩
  · rename_i q e
    rw [e] at t
    obtain ⟨ps, e1, e2, e3⟩ := t
    exact ⟨ps, h1.trans e1, e2, fun pos cv hc => let ⟨c, a, b⟩ := e3 pos cv hc; ⟨c, a, h2 c q b⟩⟩
/-- told, and no code object or the like -/
def Hd (H : Hp) (a : Addr) : Prop := H a ≠ none ∧ ∀ φ, H a ≠ some (.ext φ)
abbrev FP := List (Addr × MO)
abbrev SS := List (Option SV)
/-- the context: module facts, tables, hidden addresses, borrowed addresses, the heap at the entry -/
structure CC (K : PySem.W.Frag) (T : List Tb) where
  U : Addr → Prop
  B : Addr → Prop
  H0 : Hp
  hU : ∀ a, U a → ¬ B a ∧ a ∉ keysT T ∧ Hd H0 a
open Classical in
noncomputable def hid (U : Addr → Prop) (T : List Tb) (F : FP) (H : Hp) : Hp := fun a => if U a ∨ a ∈ keysT T ∨ a ∈ F.map (·.1) then none else H a
theorem hid_some {U : Addr → Prop} {T : List Tb} {F : FP} {H : Hp} {a : Addr} {o : HO} : hid U T F H a = some o ↔ (¬ U a ∧ a ∉ keysT T ∧ a ∉ F.map (·.1)) ∧ H a = some o := by
  unfold hid
  by_cases h : U a ∨ a ∈ keysT T ∨ a ∈ F.map (·.1)
  · rw [if_pos h]
    constructor
    · intro z; cases z
    · intro ⟨⟨h1, h2, h3⟩, _⟩
      rcases h with h | h | h
      · exact absurd h h1
      · exact absurd h h2
      · exact absurd h h3
  · rw [if_neg h]
    constructor
    · intro z
      exact ⟨⟨fun q => h (.inl q), fun q => h (.inr (.inl q)), fun q => h (.inr (.inr q))⟩, z⟩
    · intro ⟨_, z⟩; exact z

/-- all that H tells H' tells -/
def Sub (H H' : Hp) : Prop := ∀ a o, H a = some o → H' a = some o
theorem Sub.refl (H : Hp) : Sub H H := fun _ _ h => h
theorem Sub.trans {H H1 H2 : Hp} (a : Sub H H1) (b : Sub H1 H2) : Sub H H2 := fun x o h => b x o (a x o h)
theorem hid_sub {U : Addr → Prop} {T : List Tb} {F : FP} {H : Hp} : Sub (hid U T F H) H := fun _ _ h => (hid_some.mp h).2
/-! data: as the kit's Dp, an empty dict too -/
mutual
inductive Dq (K : PySem.W.Frag) (H : Hp) : V → PyData → Prop
  | non : Dq K H .non .none
  | bl (b : Bool) : Dq K H (.bl b) (.bool b)
  | int (i : Int) : Dq K H (.int i) (.int i)
  | str (x : Str) : Dq K H (.str x) (.str x)
  | lst {a : Addr} {xs : List V} {ds : List PyData} : SqL K H a xs → DqAll K H xs ds → Dq K H (.ref a) (.list ds)
  | tup {a : Addr} {xs : List V} {ds : List PyData} : SqT K H a xs → DqAll K H xs ds → Dq K H (.ref a) (.tuple ds)
  | dic {a : Addr} : H a = some (.dK []) → Dq K H (.ref a) (.dict [])
inductive DqAll (K : PySem.W.Frag) (H : Hp) : List V → List PyData → Prop
  | nil : DqAll K H [] []
  | cons {v : V} {vs : List V} {d : PyData} {ds : List PyData} : Dq K H v d → DqAll K H vs ds → DqAll K H (v :: vs) (d :: ds)
end
mutual
/-- no dict within -/
def noDic : PyData → Bool
  | .list ds => noDics ds
  | .tuple ds => noDics ds
  | .dict _ => false
  | _ => true
def noDics : List PyData → Bool
  | [] => true
  | d :: ds => noDic d && noDics ds
end
mutual
theorem dq_dp {K : PySem.W.Frag} {H : Hp} : ∀ {v : V} {d : PyData}, Dq K H v d → noDic d = true → Dp K H v d
  | _, _, .non, _ => .non
  | _, _, .bl b, _ => .bl b
  | _, _, .int i, _ => .int i
  | _, _, .str x, _ => .str x
  | _, _, .lst h a, n => .lst h (dqs_dps a (by simpa [noDic] using n))
  | _, _, .tup h a, n => .tup h (dqs_dps a (by simpa [noDic] using n))
  | _, _, .dic h, n => by simp [noDic] at n
theorem dqs_dps {K : PySem.W.Frag} {H : Hp} : ∀ {vs : List V} {ds : List PyData}, DqAll K H vs ds → noDics ds = true → DpAll K H vs ds
  | _, _, .nil, _ => .nil
  | _ :: _, d :: ds, .cons h a, n => by
    have n : noDic d = true ∧ noDics ds = true := by simpa [noDics] using n
    exact .cons (dq_dp h n.1) (dqs_dps a n.2)
end
section
variable {K : PySem.W.Frag} {H H' : Hp}
theorem rd_sub (s : Sub H H') {a : Addr} {u : HO} (h : Rd H a u) : Rd H' a u := by
  rcases h with h | ⟨o, h⟩
  · exact .inl (s a _ h)
  · exact .inr ⟨o, s a _ h⟩
theorem sql_sub (s : Sub H H') {a : Addr} {xs : List V} (h : SqL K H a xs) : SqL K H' a xs := by
  rcases h with h | h
  · exact .inl (rd_sub s h)
  · exact .inr h
theorem sqt_sub (s : Sub H H') {a : Addr} {xs : List V} (h : SqT K H a xs) : SqT K H' a xs := by
  rcases h with h | h
  · exact .inl (rd_sub s h)
  · exact .inr h
mutual
theorem dp_sub (s : Sub H H') : ∀ {v : V} {d : PyData}, Dq K H v d → Dq K H' v d
  | _, _, .non => .non
  | _, _, .bl b => .bl b
  | _, _, .int i => .int i
  | _, _, .str x => .str x
  | _, _, .lst h a => .lst (sql_sub s h) (dps_sub s a)
  | _, _, .tup h a => .tup (sqt_sub s h) (dps_sub s a)
  | _, _, .dic h => .dic (s _ _ h)
theorem dps_sub (s : Sub H H') : ∀ {vs : List V} {ds : List PyData}, DqAll K H vs ds → DqAll K H' vs ds
  | _, _, .nil => .nil
  | _, _, .cons h a => .cons (dp_sub s h) (dps_sub s a)
end
/-- data without lists or dicts -/
inductive Imm : PyData → Prop
  | non : Imm .none
  | bl (b) : Imm (.bool b)
  | int (i) : Imm (.int i)
  | str (x) : Imm (.str x)
  | tup {ds : List PyData} : (∀ d ∈ ds, Imm d) → Imm (.tuple ds)
/-- tuples stay -/
def SubT (H H' : Hp) : Prop := ∀ a xs, Rd H a (.tup xs) → Rd H' a (.tup xs)
theorem sqt_subT (s : SubT H H') {a : Addr} {xs : List V} (h : SqT K H a xs) : SqT K H' a xs := by
  rcases h with h | h
  · exact .inl (s a _ h)
  · exact .inr h
mutual
theorem dp_imm (s : SubT H H') : ∀ {v : V} {d : PyData}, Dq K H v d → Imm d → Dq K H' v d
  | _, _, .non, _ => .non
  | _, _, .bl b, _ => .bl b
  | _, _, .int i, _ => .int i
  | _, _, .str x, _ => .str x
  | _, _, .lst h a, i => nomatch i
  | _, _, .tup h a, i => .tup (sqt_subT s h) (dps_imm s a (by cases i with | tup k => exact k))
  | _, _, .dic h, i => nomatch i
theorem dps_imm (s : SubT H H') : ∀ {vs : List V} {ds : List PyData}, DqAll K H vs ds → (∀ d ∈ ds, Imm d) → DqAll K H' vs ds
  | _, _, .nil, _ => .nil
  | _, _, .cons h a, i => .cons (dp_imm s h (i _ (List.mem_cons_self))) (dps_imm s a fun d hd => i d (List.mem_cons_of_mem _ hd))
end
theorem dps_len : ∀ {vs : List V} {ds : List PyData}, DqAll K H vs ds → vs.length = ds.length
  | _, _, .nil => rfl
  | _, _, .cons _ a => by simp [dps_len a]
theorem dps_get : ∀ {vs : List V} {ds : List PyData} {i : Nat} {d : PyData}, DqAll K H vs ds → ds[i]? = some d → ∃ v, vs[i]? = some v ∧ Dq K H v d
  | _, _, _, _, .nil, h => by simp at h
  | _, _, 0, _, .cons h a, e => by simp at e; subst e; exact ⟨_, rfl, h⟩
  | _, _, i + 1, _, .cons h a, e => by
    obtain ⟨v, q, r⟩ := dps_get (i := i) a (by simpa using e)
    exact ⟨v, by simpa using q, r⟩
theorem dps_getV : ∀ {vs : List V} {ds : List PyData} {i : Nat} {v : V}, DqAll K H vs ds → vs[i]? = some v → ∃ d, ds[i]? = some d ∧ Dq K H v d
  | _, _, _, _, .nil, h => by simp at h
  | _, _, 0, _, .cons h a, e => by simp at e; subst e; exact ⟨_, rfl, h⟩
  | _, _, i + 1, _, .cons h a, e => by
    obtain ⟨v, q, r⟩ := dps_getV (i := i) a (by simpa using e)
    exact ⟨v, by simpa using q, r⟩
theorem dps_app : ∀ {vs ws : List V} {ds es : List PyData}, DqAll K H vs ds → DqAll K H ws es → DqAll K H (vs ++ ws) (ds ++ es)
  | _, _, _, _, .nil, b => b
  | _, _, _, _, .cons h a, b => .cons h (dps_app a b)
theorem dps_take : ∀ {vs : List V} {ds : List PyData} (n : Nat), DqAll K H vs ds → DqAll K H (vs.take n) (ds.take n)
  | _, _, 0, _ => by simp; exact .nil
  | _, _, _ + 1, .nil => .nil
  | _, _, n + 1, .cons h a => .cons h (dps_take n a)
theorem dps_drop : ∀ {vs : List V} {ds : List PyData} (n : Nat), DqAll K H vs ds → DqAll K H (vs.drop n) (ds.drop n)
  | _, _, 0, h => h
  | _, _, _ + 1, .nil => .nil
  | _, _, n + 1, .cons _ a => dps_drop n a
theorem dps_rev : ∀ {vs : List V} {ds : List PyData}, DqAll K H vs ds → DqAll K H vs.reverse ds.reverse
  | _, _, .nil => .nil
  | _, _, .cons h a => by
    rw [List.reverse_cons, List.reverse_cons]
    exact dps_app (dps_rev a) (.cons h .nil)
theorem dps_ints : ∀ {vs : List V} {ns : List Int}, DqAll K H vs (ns.map .int) → vs = ns.map V.int
  | _, [], .nil => rfl
  | _, n :: r, .cons h a => by
    cases h
    rw [dps_ints a]
    rfl
theorem ints_dps : ∀ (ns : List Int), DqAll K H (ns.map V.int) (ns.map .int)
  | [] => .nil
  | n :: r => .cons (.int n) (ints_dps r)

/-- fields -/
abbrev FsR (K : PySem.W.Frag) (H : Hp) : List (Str × V) → List (Str × PyData) → Prop := Paired fun (p : Str × V) (q : Str × PyData) => p.1 = q.1 ∧ Dq K H p.2 q.2
/-- v is what the symbolic value tells, in a heap whose owned objects are hidden -/
def RV (K : PySem.W.Frag) (H : Hp) : SV → V → Prop
  | .d x, v => Dq K H v x
  | .o C fs, v => ∃ a dx vs, v = .ref a ∧ H a = some (.ins C dx vs) ∧ FsR K H vs fs
  | .v u, v => v = u
  | .m a, v => v = .ref a
  | .p φ, v => ∀ H', Sub H H' → φ H' v
theorem RV.sub (s : Sub H H') {x : SV} {v : V} (h : RV K H x v) : RV K H' x v := by
  cases x with
  | d x => exact dp_sub s h
  | o C fs =>
    obtain ⟨a, dx, vs, e, h1, h2⟩ := h
    exact ⟨a, dx, vs, e, s _ _ h1, Paired.mapP h2 fun p q z => ⟨z.1, dp_sub s z.2⟩⟩
  | v u => exact h
  | m a => exact h
  | p φ => exact fun H' s' => h H' (s.trans s')
abbrev RVs (K : PySem.W.Frag) (H : Hp) : List SV → List V → Prop := Paired fun x v => RV K H x v
theorem RVs.sub (s : Sub H H') {xs : List SV} {vs : List V} (h : RVs K H xs vs) : RVs K H' xs vs := Paired.mapP h fun _ _ z => z.sub s
theorem rvs_d : ∀ {ds : List PyData} {vs : List V}, RVs K H (ds.map .d) vs → DqAll K H vs ds
  | [], _, .nil => .nil
  | _ :: _, _, .cons h t => .cons h (rvs_d t)
theorem d_rvs : ∀ {ds : List PyData} {vs : List V}, DqAll K H vs ds → RVs K H (ds.map .d) vs
  | [], _, .nil => .nil
  | _ :: _, _, .cons h t => .cons h (d_rvs t)
/-- what stands at an owned address -/
def RM (K : PySem.W.Frag) (Hh H : Hp) (a : Addr) : MO → Prop
  | .lst xs => ∃ vs, H a = some (.lst vs) ∧ RVs K Hh xs vs
  | .ins C dx fs => ∃ vs, H a = some (.ins C dx vs) ∧ Paired (fun (q : Str × SV) (p : Str × V) => p.1 = q.1 ∧ RV K Hh q.2 p.2) fs vs
theorem RM.sub {Hh Hh' : Hp} {a : Addr} (s : Sub Hh Hh') (e : H' a = H a) {o : MO} (h : RM K Hh H a o) : RM K Hh' H' a o := by
  cases o with
  | lst xs =>
    obtain ⟨vs, h1, h2⟩ := h
    exact ⟨vs, e.trans h1, h2.sub s⟩
  | ins C dx fs =>
    obtain ⟨vs, h1, h2⟩ := h
    exact ⟨vs, e.trans h1, Paired.mapP h2 fun p q z => ⟨z.1, z.2.sub s⟩⟩
end

/-- the heap is so: what the entry's heap told stands, the tables are tables, the owned objects hold what F tells -/
structure As {K : PySem.W.Frag} {T : List Tb} (C : CC K T) (F : FP) (H : Hp) : Prop where
  ex : ∀ a o, ¬ C.B a → a ∉ keysT T → C.H0 a = some o → H a = some o
  tab : ∀ P ∈ T, TabQ H P
  nd : (F.map (·.1)).Nodup
  own : ∀ a, a ∈ F.map (·.1) → a ∉ keysT T ∧ (C.B a ∨ C.H0 a = none)
  mem : ∀ p ∈ F, RM K (hid C.U T F H) H p.1 p.2
noncomputable abbrev CC.hid {K : PySem.W.Frag} {T : List Tb} (C : CC K T) (F : FP) (H : Hp) : Hp := G.hid C.U T F H
/-- the step from (F, H) to (F', H') leaves what is frozen -/
abbrev Ev {K : PySem.W.Frag} {T : List Tb} (C : CC K T) (F : FP) (H : Hp) (F' : FP) (H' : Hp) : Prop := Sub (C.hid F H) (C.hid F' H')
/-- the names -/
abbrev RS (K : PySem.W.Frag) (H : Hp) : SS → L2.St → Prop := Paired fun (s : Option SV) (o : Option V) => ∀ x, s = some x → ∃ v, o = some v ∧ RV K H x v
section
variable {K : PySem.W.Frag} {H H' : Hp} {S : SS} {σ : L2.St}
theorem RS.sub (s : Sub H H') (h : RS K H S σ) : RS K H' S σ := Paired.mapP h fun _ _ z x e => let ⟨v, e', r⟩ := z x e; ⟨v, e', r.sub s⟩
theorem RS.get : ∀ {S : SS} {σ : L2.St} {i : Nat} {x : SV}, RS K H S σ → S[i]? = some (some x) → ∃ v, σ[i]? = some (some v) ∧ RV K H x v
  | _, _, _, _, .nil, e => by simp at e
  | _, _, 0, x, .cons r _, e => by
    simp at e
    obtain ⟨v, q, z⟩ := r x e
    exact ⟨v, by simp [q], z⟩
  | _, _, i + 1, x, .cons _ t, e => by
    obtain ⟨v, q, z⟩ := RS.get (i := i) (x := x) t (by simpa using e)
    exact ⟨v, by simpa using q, z⟩
theorem RS.set {x : SV} {v : V} (r : RV K H x v) : ∀ {S : SS} {σ : L2.St} (i : Nat), RS K H S σ → RS K H (S.set i (some x)) (σ.set i (some v))
  | _, _, _, .nil => .nil
  | _, _, 0, .cons _ t => .cons (fun y e => ⟨v, rfl, by cases e; exact r⟩) t
  | _, _, i + 1, .cons q t => .cons q (RS.set r i t)
theorem RS.setN : ∀ {S : SS} {σ : L2.St} (i : Nat), RS K H S σ → RS K H (S.set i none) (σ.set i none)
  | _, _, _, .nil => .nil
  | _, _, 0, .cons _ t => .cons (fun y e => by cases e) t
  | _, _, i + 1, .cons q t => .cons q (RS.setN i t)
/-- forgetting -/
theorem RS.forget {S' : SS} (h : RS K H S σ) (f : ∀ (i : Nat) (x : SV), S'[i]? = some (some x) → S[i]? = some (some x)) (l : S'.length = S.length) : RS K H S' σ := by
  induction h generalizing S' with
  | nil =>
    cases S' with
    | nil => exact .nil
    | cons a b => simp at l
  | @cons s o S σ r t ih =>
    cases S' with
    | nil => simp at l
    | cons a b =>
      refine .cons (fun x e => ?_) (ih (fun i x e => ?_) (by simpa using l))
      · have := f 0 x (by simp [e])
        simp at this
        exact r x this
      · have := f (i + 1) x (by simpa using e)
        simpa using this
end

/-! ### judgements -/
section
variable {K : PySem.W.Frag} {T : List Tb} (C : CC K T)
/-- an expression -/
def TJ (te : TE) (S : SS) (F : FP) (P : SV → FP → Prop) : Prop :=
  ∀ σ H, RS K (C.hid F H) S σ → As C F H → ∀ Q : VK, (∀ v H' x F', Ev C F H F' H' → As C F' H' → RV K (C.hid F' H') x v → P x F' → Q v H') → te σ H Q
/-- a test -/
def TB (tt : TT) (S : SS) (F : FP) (P : Bool → FP → Prop) : Prop :=
  ∀ σ H, RS K (C.hid F H) S σ → As C F H → ∀ Q : Bool → Hp → Prop, (∀ b H' F', Ev C F H F' H' → As C F' H' → P b F' → Q b H') → tt σ H Q
/-- arguments -/
def TL (ta : TA) (S : SS) (F : FP) (P : List SV → FP → Prop) : Prop :=
  ∀ σ H, RS K (C.hid F H) S σ → As C F H → ∀ Q : List V → Hp → Prop, (∀ vs H' xs F', Ev C F H F' H' → As C F' H' → RVs K (C.hid F' H') xs vs → P xs F' → Q vs H') → ta σ H Q
/-- a two-place operation on values -/
def RO (r : R2) (x y : SV) (F : FP) (P : SV → FP → Prop) : Prop :=
  ∀ H v w, As C F H → RV K (C.hid F H) x v → RV K (C.hid F H) y w → ∀ Q : VK, (∀ z H' u F', Ev C F H F' H' → As C F' H' → RV K (C.hid F' H') u z → P u F' → Q z H') → r v w H Q
/-- a one-place one -/
def RU (r : V → Hp → VK → Prop) (x : SV) (F : FP) (P : SV → FP → Prop) : Prop :=
  ∀ H v, As C F H → RV K (C.hid F H) x v → ∀ Q : VK, (∀ z H' u F', Ev C F H F' H' → As C F' H' → RV K (C.hid F' H') u z → P u F' → Q z H') → r v H Q
/-- a call on values -/
def RC (r : List V → Hp → VK → Prop) (xs : List SV) (F : FP) (P : SV → FP → Prop) : Prop :=
  ∀ H vs, As C F H → RVs K (C.hid F H) xs vs → ∀ Q : VK, (∀ z H' u F', Ev C F H F' H' → As C F' H' → RV K (C.hid F' H') u z → P u F' → Q z H') → r vs H Q
/-- a call by a def's promise -/
def CL (sp : Sp) (xs : List SV) (F : FP) (P : SV → FP → Prop) : Prop := ∀ E : XK, RC C (fun vs H Q => sp vs H Q E) xs F P
/-- the wanted ends of a statement -/
structure SE where
  nx : SS → FP → Prop
  rt : SV → FP → Prop
  bk : SS → FP → Prop := fun _ _ => False
  ct : SS → FP → Prop := fun _ _ => False
structure Cov (F : FP) (H : Hp) (E : SE) (D : Ends) : Prop where
  nx : ∀ σ' H' S' F', Ev C F H F' H' → RS K (C.hid F' H') S' σ' → As C F' H' → E.nx S' F' → D.nx σ' H'
  rt : ∀ v H' x F', Ev C F H F' H' → As C F' H' → RV K (C.hid F' H') x v → E.rt x F' → D.rt v H'
  bk : ∀ σ' H' S' F', Ev C F H F' H' → RS K (C.hid F' H') S' σ' → As C F' H' → E.bk S' F' → D.bk σ' H'
  ct : ∀ σ' H' S' F', Ev C F H F' H' → RS K (C.hid F' H') S' σ' → As C F' H' → E.ct S' F' → D.ct σ' H'
/-- a statement -/
def ST (ts : TS) (S : SS) (F : FP) (E : SE) : Prop := ∀ σ H, RS K (C.hid F H) S σ → As C F H → ∀ D, Cov C F H E D → ts D σ H
/-- a target -/
def TGJ (g : TG) (x : SV) (S : SS) (F : FP) (P : SS → FP → Prop) : Prop :=
  ∀ σ H v, RS K (C.hid F H) S σ → As C F H → RV K (C.hid F H) x v → ∀ Q : L2.St → Hp → Prop, (∀ σ' H' S' F', Ev C F H F' H' → RS K (C.hid F' H') S' σ' → As C F' H' → P S' F' → Q σ' H') → g v σ H Q
/-- an iterator that gives ys -/
def IT (wi : TI) (S : SS) (F : FP) (P : List SV → FP → Prop) : Prop :=
  ∀ σ H, RS K (C.hid F H) S σ → As C F H → ∀ R : It → Hp → Prop,
    (∀ (J : It) H' F' (ys : List SV) (Gd : Hp → Prop) (Yr : Nat → Hp → V → Hp → Prop), Ev C F H F' H' → As C F' H' → Walk J ys.length Gd Yr →
      (∀ F2 H2, Ev C F' H' F2 H2 → As C F2 H2 → Gd H2) →
      (∀ i H2 v H3 F2, Ev C F' H' F2 H2 → As C F2 H2 → i < ys.length → Yr i H2 v H3 → Ev C F2 H2 F2 H3 ∧ As C F2 H3 ∧ ∃ y, ys[i]? = some y ∧ RV K (C.hid F2 H3) y v) →
      P ys F' → R J H') → wi σ H R
end

section
variable {K : PySem.W.Frag} {T : List Tb} {C : CC K T} {S : SS} {F : FP} {P : SV → FP → Prop} {te ta tb : TE} {x y z : SV}
theorem Cov.ev {F' : FP} {H H' : Hp} {E : SE} {D : Ends} (c : Cov C F H E D) (e : Ev C F H F' H') : Cov C F' H' E D :=
  ⟨fun σ' H2 S' F2 e2 => c.nx σ' H2 S' F2 (e.trans e2), fun v H2 x F2 e2 => c.rt v H2 x F2 (e.trans e2), fun σ' H2 S' F2 e2 => c.bk σ' H2 S' F2 (e.trans e2), fun σ' H2 S' F2 e2 => c.ct σ' H2 S' F2 (e.trans e2)⟩
/-- an object that nobody tells is laid: what was is left -/
theorem As.laid {H : Hp} {p : Addr} {o : HO} (a : As C F H) (hp : H p = none) : Ev C F H F (upd H p o) ∧ As C F (upd H p o) := by
  have st : ∀ b u, H b = some u → upd H p o b = some u := fun b u e => by
    rw [upd_ne (ne_of_none e hp)]
    exact e
  have ev : Ev C F H F (upd H p o) := fun b u h => by
    obtain ⟨h1, h2⟩ := hid_some.mp h
    exact hid_some.mpr ⟨h1, st b u h2⟩
  refine ⟨ev, fun b u h1 h2 h3 => st b u (a.ex b u h1 h2 h3), fun P hP => ?_, a.nd, a.own, fun q hq => ?_⟩
  · obtain ⟨ps, e⟩ := (a.tab P hP).at_
    exact (a.tab P hP).step ((st _ _ e).trans e.symm) fun c q h => st _ _ h
  · refine (a.mem q hq).sub ev ?_
    refine upd_ne fun e => ?_
    have m := a.mem q hq
    rw [e] at m
    cases h : q.2 with
    | lst xs =>
      rw [h] at m
      obtain ⟨vs, e1, _⟩ := m
      rw [hp] at e1; cases e1
    | ins C dx fs =>
      rw [h] at m
      obtain ⟨vs, e1, _⟩ := m
      rw [hp] at e1; cases e1
theorem As.there {H : Hp} (a : As C F H) {q : Addr} (hq : q ∈ F.map (·.1)) : H q ≠ none := by
  obtain ⟨p, hp, rfl⟩ := List.mem_map.mp hq
  have m := a.mem p hp
  intro e
  cases h : p.2 with
  | lst xs =>
    rw [h] at m
    obtain ⟨vs, e1, _⟩ := m
    rw [e] at e1; cases e1
  | ins C dx fs =>
    rw [h] at m
    obtain ⟨vs, e1, _⟩ := m
    rw [e] at e1; cases e1
theorem As.uH {H : Hp} (a : As C F H) {b : Addr} (hb : C.U b) : Hd H b := by
  obtain ⟨h1, h2, h3⟩ := C.hU b hb
  cases e : C.H0 b with
  | none => exact absurd e h3.1
  | some o =>
    have e2 := a.ex b o h1 h2 e
    exact ⟨(fun z => by rw [e2] at z; cases z), (fun φ z => h3.2 φ (by rw [e, ← e2, z]))⟩
theorem As.uT {H : Hp} (a : As C F H) {b : Addr} (hb : C.U b) : H b ≠ none := (a.uH hb).1
theorem As.notT {H : Hp} (a : As C F H) {p : Addr} (hp : H p = none) : p ∉ keysT T := fun h => by
  obtain ⟨q, hq, rfl⟩ := List.mem_map.mp h
  obtain ⟨ps, e⟩ := (a.tab q hq).at_
  rw [hp] at e; cases e
/-- an owned object is no code object -/
theorem As.noCode {H : Hp} (a : As C F H) {p : Addr} (hp : p ∈ F.map (·.1)) {φ : Heap → Prop} : H p ≠ some (.ext φ) := fun e => by
  obtain ⟨q, hq, rfl⟩ := List.mem_map.mp hp
  have m := a.mem q hq
  cases h : q.2 with
  | lst xs =>
    rw [h] at m
    obtain ⟨vs, e1, _⟩ := m
    rw [e] at e1; cases e1
  | ins C dx fs =>
    rw [h] at m
    obtain ⟨vs, e1, _⟩ := m
    rw [e] at e1; cases e1
theorem As.thereH {H : Hp} (a : As C F H) {q : Addr} (hq : q ∈ F.map (·.1)) : Hd H q := ⟨a.there hq, fun _ => a.noCode hq⟩
/-- a new thing at p is seen -/
theorem As.seen {H : Hp} {p : Addr} {o : HO} (a : As C F H) (hp : H p = none) : C.hid F (upd H p o) p = some o :=
  hid_some.mpr ⟨⟨fun h => a.uT h hp, a.notT hp, fun h => a.there h hp⟩, upd_same⟩
/-- a new object at p is owned -/
theorem As.new {H : Hp} {p : Addr} {o : HO} {mo : MO} (a : As C F H) (hp : H p = none) (hm : ∀ Hh, Sub (C.hid F H) Hh → RM K Hh (upd H p o) p mo) :
    Ev C F H ((p, mo) :: F) (upd H p o) ∧ As C ((p, mo) :: F) (upd H p o) := by
  obtain ⟨ev0, a0⟩ := a.laid (o := o) hp
  have hpF : p ∉ F.map (·.1) := fun h => a.there h hp
  have hb : ∀ b u, C.hid F H b = some u → b ≠ p := fun b u h e => by
    obtain ⟨_, h2⟩ := hid_some.mp h
    rw [e, hp] at h2; cases h2
  have ev : Ev C F H ((p, mo) :: F) (upd H p o) := fun b u h => by
    obtain ⟨⟨h1, h2, h3⟩, h4⟩ := hid_some.mp (ev0 b u h)
    refine hid_some.mpr ⟨⟨h1, h2, fun q => ?_⟩, h4⟩
    rcases List.mem_cons.mp q with q | q
    · exact hb b u h q
    · exact h3 q
  refine ⟨ev, a0.ex, a0.tab, ?_, fun b h => ?_, fun q hq => ?_⟩
  · rw [List.map_cons, List.nodup_cons]
    exact ⟨hpF, a.nd⟩
  · rcases List.mem_cons.mp h with h | h
    · have h : b = p := h
      subst h
      refine ⟨a.notT hp, ?_⟩
      by_cases hB : C.B b
      · exact .inl hB
      · cases e : C.H0 b with
        | none => exact .inr rfl
        | some u =>
          rw [a.ex b u hB (a.notT hp) e] at hp
          cases hp
    · exact a.own b h
  · rcases List.mem_cons.mp hq with rfl | hq
    · exact hm _ ev
    · refine (a.mem q hq).sub ev (upd_ne fun e => ?_)
      exact hpF (List.mem_map.mpr ⟨q, hq, e⟩)
/-- the footprint with another thing at a -/
def setF (F : FP) (a : Addr) (mo : MO) : FP := F.map fun q => if q.1 = a then (a, mo) else q
theorem setF_keys (F : FP) (a : Addr) (mo : MO) : (setF F a mo).map (·.1) = F.map (·.1) := by
  unfold setF
  rw [List.map_map]
  apply List.map_congr_left
  intro q _
  simp only [Function.comp]
  split
  · rename_i h; exact h.symm
  · rfl
theorem setF_mem {F : FP} {a : Addr} {mo : MO} {q : Addr × MO} (h : q ∈ setF F a mo) : (q = (a, mo)) ∨ (q ∈ F ∧ q.1 ≠ a) := by
  obtain ⟨p, hp, e⟩ := List.mem_map.mp h
  split at e
  · exact .inl e.symm
  · rename_i hn
    exact .inr ⟨e ▸ hp, e ▸ hn⟩
/-- an owned object is changed -/
theorem As.put {H : Hp} {p : Addr} {o : HO} {mo mo' : MO} (a : As C F H) (hp : (p, mo) ∈ F) (hm : RM K (C.hid F H) (upd H p o) p mo') :
    Ev C F H (setF F p mo') (upd H p o) ∧ As C (setF F p mo') (upd H p o) := by
  have hpF : p ∈ F.map (·.1) := List.mem_map.mpr ⟨_, hp, rfl⟩
  have ev : Ev C F H (setF F p mo') (upd H p o) := fun b u h => by
    obtain ⟨⟨h1, h2, h3⟩, h4⟩ := hid_some.mp h
    refine hid_some.mpr ⟨⟨h1, h2, by rw [setF_keys]; exact h3⟩, ?_⟩
    rw [upd_ne fun e => h3 (by rw [e]; exact hpF)]
    exact h4
  refine ⟨ev, fun b u h1 h2 h3 => ?_, fun P hP => ?_, by rw [setF_keys]; exact a.nd, by rw [setF_keys]; exact a.own, fun q hq => ?_⟩
  · have nb : b ≠ p := fun e => by
      subst e
      rcases (a.own b hpF).2 with h | h
      · exact h1 h
      · rw [h] at h3; cases h3
    rw [upd_ne nb]
    exact a.ex b u h1 h2 h3
  · exact (a.tab P hP).step (upd_ne fun z => (a.own p hpF).1 (by rw [← z]; exact List.mem_map.mpr ⟨P, hP, rfl⟩)) fun c q h => by
      rw [upd_ne fun z => a.noCode hpF (by rw [← z]; exact h)]
      exact h
  · rcases setF_mem hq with rfl | ⟨hq, hne⟩
    · exact hm.sub ev rfl
    · exact (a.mem q hq).sub ev (upd_ne hne)
end
end G

namespace G
open PySem L2 RT
abbrev dI (i : Int) : SV := .d (.int i)
abbrev dB (b : Bool) : SV := .d (.bool b)
abbrev dN : SV := .d .none
section
variable {K : PySem.W.Frag} {T : List Tb} {C : CC K T} {S : SS} {F : FP} {P : SV → FP → Prop} {PB : Bool → FP → Prop} {PL : List SV → FP → Prop} {te ta tb : TE} {tt tu : TT} {tl : TA} {x y z : SV} {r : R2}
theorem RV.int {H : Hp} {i : Int} {v : V} (h : RV K H (.d (.int i)) v) : v = .int i := by cases h; rfl
theorem RV.bl {H : Hp} {b : Bool} {v : V} (h : RV K H (.d (.bool b)) v) : v = .bl b := by cases h; rfl
theorem RV.str {H : Hp} {x : Str} {v : V} (h : RV K H (.d (.str x)) v) : v = .str x := by cases h; rfl
theorem RV.non {H : Hp} {v : V} (h : RV K H (.d .none) v) : v = .non := by cases h; rfl

theorem rvI {H : Hp} (i : Int) : RV K H (dI i) (.int i) := Dq.int i
theorem rvB {H : Hp} (i : Bool) : RV K H (dB i) (.bl i) := Dq.bl i
theorem rvN {H : Hp} : RV K H dN .non := Dq.non
theorem rvS {H : Hp} (x : Str) : RV K H (.d (.str x)) (.str x) := Dq.str x

/-! ### expressions -/
theorem tj_var {i : Nat} (h : S[i]? = some (some x)) (k : P x F) : TJ C (tVar i) S F P := fun σ H rs as Q q =>
  let ⟨v, e, r⟩ := rs.get h
  ⟨v, e, q v H x F (Sub.refl _) as r k⟩
theorem tj_int {i : Int} (k : P (dI i) F) : TJ C (tC (.int i)) S F P := fun σ H rs as Q q => q _ H (dI i) F (Sub.refl _) as (rvI i) k
theorem tj_bl {b : Bool} (k : P (dB b) F) : TJ C (tC (.bl b)) S F P := fun σ H rs as Q q => q _ H (dB b) F (Sub.refl _) as (rvB b) k
theorem tj_non (k : P dN F) : TJ C (tC .non) S F P := fun σ H rs as Q q => q _ H dN F (Sub.refl _) as rvN k
theorem tj_str {s : Str} (k : P (.d (.str s)) F) : TJ C (tC (.str s)) S F P := fun σ H rs as Q q => q _ H (.d (.str s)) F (Sub.refl _) as (rvS s) k
theorem tj_ty {n : String} (k : P (.v (.ty n)) F) : TJ C (tC (.ty n)) S F P := fun σ H rs as Q q => q _ H (.v (.ty n)) F (Sub.refl _) as rfl k
theorem tj_ref {a : Addr} (k : P (.v (.ref a)) F) : TJ C (tC (.ref a)) S F P := fun σ H rs as Q q => q _ H (.v (.ref a)) F (Sub.refl _) as rfl k
theorem tj_op (h : TJ C ta S F fun x F1 => TJ C tb S F1 fun y F2 => RO C r x y F2 P) : TJ C (tOp r ta tb) S F P := fun σ H rs as Q q =>
  h σ H rs as _ fun v H1 x F1 e1 a1 r1 h1 => h1 σ H1 (rs.sub e1) a1 _ fun w H2 y F2 e2 a2 r2 h2 => h2 H2 v w a2 (r1.sub e2) r2 Q fun z H3 u F3 e3 a3 r3 p => q z H3 u F3 ((e1.trans e2).trans e3) a3 r3 p
theorem tj_un {r : V → Hp → VK → Prop} (h : TJ C ta S F fun x F1 => RU C r x F1 P) : TJ C (tUn r ta) S F P := fun σ H rs as Q q =>
  h σ H rs as _ fun v H1 x F1 e1 a1 r1 h1 => h1 H1 v a1 r1 Q fun z H3 u F3 e3 a3 r3 p => q z H3 u F3 (e1.trans e3) a3 r3 p
theorem tj_cb {r : List V → Hp → VK → Prop} (h : TL C tl S F fun xs F1 => RC C r xs F1 P) : TJ C (tCB r tl) S F P := fun σ H rs as Q q =>
  h σ H rs as _ fun vs H1 xs F1 e1 a1 r1 h1 => h1 H1 vs a1 r1 Q fun z H3 u F3 e3 a3 r3 p => q z H3 u F3 (e1.trans e3) a3 r3 p
theorem tj_call {sp : Sp} {E : XK} (h : TL C tl S F fun xs F1 => CL C sp xs F1 P) : TJ C (tCall sp [] E tl) S F P := fun σ H rs as Q q =>
  h σ H rs as _ fun vs H1 xs F1 e1 a1 r1 h1 => by
    rw [List.append_nil]
    exact h1 E H1 vs a1 r1 Q fun z H3 u F3 e3 a3 r3 p => q z H3 u F3 (e1.trans e3) a3 r3 p
theorem tl_nil (k : PL [] F) : TL C tNil S F PL := fun σ H rs as Q q => q [] H [] F (Sub.refl _) as .nil k
theorem tl_cons {tr : TA} (h : TJ C ta S F fun x F1 => TL C tr S F1 fun xs F2 => PL (x :: xs) F2) : TL C (tCons ta tr) S F PL := fun σ H rs as Q q =>
  h σ H rs as _ fun v H1 x F1 e1 a1 r1 h1 => h1 σ H1 (rs.sub e1) a1 _ fun vs H2 xs F2 e2 a2 r2 p => q (v :: vs) H2 (x :: xs) F2 (e1.trans e2) a2 (.cons (r1.sub e2) r2) p

/-! ### tests -/
theorem tb_test (h : TJ C te S F fun x F1 => ∃ b, x = dB b ∧ PB b F1) : TB C (tTest te) S F PB := fun σ H rs as Q q =>
  h σ H rs as _ fun v H1 x F1 e1 a1 r1 ⟨b, e, p⟩ => by
    subst e
    exact ⟨b, r1.bl, q b H1 F1 e1 a1 p⟩
theorem tb_B (h : TJ C te S F fun x F1 => ∃ b, x = dB b ∧ PB b F1) : TB C (tB te) S F PB := tb_test h
theorem tb_and (h : TB C tt S F fun b F1 => (b = true → TB C tu S F1 PB) ∧ (b = false → PB false F1)) : TB C (tAnd tt tu) S F PB := fun σ H rs as Q q =>
  h σ H rs as _ fun b H1 F1 e1 a1 h1 => by
    cases b with
    | true => exact h1.1 rfl σ H1 (rs.sub e1) a1 Q fun c H2 F2 e2 a2 p => q c H2 F2 (e1.trans e2) a2 p
    | false => exact q false H1 F1 e1 a1 (h1.2 rfl)
theorem tb_or (h : TB C tt S F fun b F1 => (b = true → PB true F1) ∧ (b = false → TB C tu S F1 PB)) : TB C (tOr tt tu) S F PB := fun σ H rs as Q q =>
  h σ H rs as _ fun b H1 F1 e1 a1 h1 => by
    cases b with
    | false => exact h1.2 rfl σ H1 (rs.sub e1) a1 Q fun c H2 F2 e2 a2 p => q c H2 F2 (e1.trans e2) a2 p
    | true => exact q true H1 F1 e1 a1 (h1.1 rfl)
theorem tb_not (h : TB C tt S F fun b F1 => PB (!b) F1) : TB C (tNot tt) S F PB := fun σ H rs as Q q => h σ H rs as _ fun b H1 F1 e1 a1 p => q (!b) H1 F1 e1 a1 p
theorem tj_if (h : TB C tt S F fun b F1 => (b = true → TJ C ta S F1 P) ∧ (b = false → TJ C tb S F1 P)) : TJ C (tIf tt ta tb) S F P := fun σ H rs as Q q =>
  h σ H rs as _ fun b H1 F1 e1 a1 h1 => by
    cases b with
    | true => exact h1.1 rfl σ H1 (rs.sub e1) a1 Q fun v H2 x F2 e2 a2 r p => q v H2 x F2 (e1.trans e2) a2 r p
    | false => exact h1.2 rfl σ H1 (rs.sub e1) a1 Q fun v H2 x F2 e2 a2 r p => q v H2 x F2 (e1.trans e2) a2 r p
theorem tj_andV (h : TJ C ta S F fun x F1 => ∃ b, x = dB b ∧ (b = true → TJ C tb S F1 P) ∧ (b = false → P (dB false) F1)) : TJ C (tAndV ta tb) S F P := fun σ H rs as Q q =>
  h σ H rs as _ fun v H1 x F1 e1 a1 r1 ⟨b, e, h1⟩ => by
    subst e
    refine ⟨b, r1.bl, ?_⟩
    cases b with
    | true => exact h1.1 rfl σ H1 (rs.sub e1) a1 Q fun v H2 x F2 e2 a2 r p => q v H2 x F2 (e1.trans e2) a2 r p
    | false => exact q _ H1 (dB false) F1 e1 a1 (rvB false) (h1.2 rfl)
theorem tj_orV (h : TJ C ta S F fun x F1 => ∃ b, x = dB b ∧ (b = false → TJ C tb S F1 P) ∧ (b = true → P (dB true) F1)) : TJ C (tOrV ta tb) S F P := fun σ H rs as Q q =>
  h σ H rs as _ fun v H1 x F1 e1 a1 r1 ⟨b, e, h1⟩ => by
    subst e
    refine ⟨b, r1.bl, ?_⟩
    cases b with
    | false => exact h1.1 rfl σ H1 (rs.sub e1) a1 Q fun v H2 x F2 e2 a2 r p => q v H2 x F2 (e1.trans e2) a2 r p
    | true => exact q _ H1 (dB true) F1 e1 a1 (rvB true) (h1.2 rfl)
theorem tj_notV (h : TJ C ta S F fun x F1 => ∃ b, x = dB b ∧ P (dB (!b)) F1) : TJ C (tNotV ta) S F P := fun σ H rs as Q q =>
  h σ H rs as _ fun v H1 x F1 e1 a1 r1 ⟨b, e, p⟩ => by
    subst e
    exact ⟨b, r1.bl, q _ H1 (dB (!b)) F1 e1 a1 (rvB _) p⟩

/-! ### statements -/
variable {E : SE} {D : Ends} {t u : TS} {c : TT} {g : TG}
theorem st_seq (h : ST C t S F { E with nx := fun S' F' => ST C u S' F' E }) : ST C (tSeq t u) S F E := fun σ H rs as D cv =>
  h σ H rs as { D with nx := u D } ⟨fun σ' H' S' F' e rs' as' h' => h' σ' H' rs' as' D (cv.ev e), cv.rt, cv.bk, cv.ct⟩
theorem st_next (h : E.nx S F) : ST C tNext S F E := fun σ H rs as D cv => cv.nx σ H S F (Sub.refl _) rs as h
theorem st_break (h : E.bk S F) : ST C tBreak S F E := fun σ H rs as D cv => cv.bk σ H S F (Sub.refl _) rs as h
theorem st_cont (h : E.ct S F) : ST C tCont S F E := fun σ H rs as D cv => cv.ct σ H S F (Sub.refl _) rs as h
theorem st_asg (h : TJ C te S F fun x F1 => TGJ C g x S F1 E.nx) : ST C (tAsg te g) S F E := fun σ H rs as D cv =>
  h σ H rs as _ fun v H1 x F1 e1 a1 r1 h1 => h1 σ H1 v (rs.sub e1) a1 r1 _ fun σ' H' S' F' e rs' as' p => cv.nx σ' H' S' F' (e1.trans e) rs' as' p
theorem tg_name {i : Nat} {PS : SS → FP → Prop} (h : PS (S.set i (some x)) F) : TGJ C (gName i) x S F PS := fun σ H v rs as r Q q => q _ H _ F (Sub.refl _) (RS.set r i rs) as h
theorem st_ret (h : TJ C te S F E.rt) : ST C (tRet te) S F E := fun σ H rs as D cv => h σ H rs as _ fun v H1 x F1 e1 a1 r1 p => cv.rt v H1 x F1 e1 a1 r1 p
theorem st_drop (h : TJ C te S F fun _ F1 => E.nx S F1) : ST C (tDrop te) S F E := fun σ H rs as D cv => h σ H rs as _ fun v H1 x F1 e1 a1 r1 p => cv.nx σ H1 S F1 e1 (rs.sub e1) a1 p
theorem st_if (h : TB C c S F fun b F1 => (b = true → ST C t S F1 E) ∧ (b = false → ST C u S F1 E)) : ST C (tIfS c t u) S F E := fun σ H rs as D cv =>
  h σ H rs as _ fun b H1 F1 e1 a1 h1 => by
    cases b with
    | true => exact h1.1 rfl σ H1 (rs.sub e1) a1 D (cv.ev e1)
    | false => exact h1.2 rfl σ H1 (rs.sub e1) a1 D (cv.ev e1)
theorem st_par {i j : Nat} (h : TL C tl S F fun xs F1 => ∃ x y, xs = [x, y] ∧ E.nx ((S.set i (some x)).set j (some y)) F1) : ST C (tPar i j tl) S F E := fun σ H rs as D cv =>
  h σ H rs as _ fun vs H1 xs F1 e1 a1 r1 ⟨x, y, e, p⟩ => by
    subst e
    cases r1 with
    | cons r1 t => cases t with
      | cons r2 t => cases t with
        | nil => exact ⟨_, _, rfl, cv.nx _ H1 _ F1 e1 (RS.set r2 j (RS.set r1 i (rs.sub e1))) a1 p⟩
theorem st_never (h : False) : ST C tNever S F E := h.elim
/-- x op= e of ints -/
theorem st_aug {i : Nat} {f : Int → Int → Int} {a : Int} (hx : S[i]? = some (some (dI a))) (h : TJ C te S F fun y F1 => ∃ b, y = dI b ∧ E.nx (S.set i (some (dI (f a b)))) F1) : ST C (tAug i te (ipI f)) S F E := fun σ H rs as D cv => by
  obtain ⟨v, e, r⟩ := rs.get hx
  refine ⟨v, e, h σ H rs as _ fun w H1 y F1 e1 a1 r1 ⟨b, ey, p⟩ => ?_⟩
  subst ey
  exact ⟨a, b, r.int, r1.int, cv.nx _ H1 _ F1 e1 (RS.set (rvI _) i (rs.sub e1)) a1 p⟩

/-! ### loops -/
theorem st_for {wi : TI} (h : IT C wi S F fun ys F1 => ∃ I : Nat → SS → FP → Prop, I 0 S F1 ∧
    (∀ i y S' F', ys[i]? = some y → I i S' F' → TGJ C g y S' F' fun S2 F2 => ST C t S2 F2 { nx := I (i + 1), ct := I (i + 1), bk := E.nx, rt := E.rt }) ∧ ∀ S' F', I ys.length S' F' → E.nx S' F') : ST C (tFor wi g t) S F E := fun σ H rs as D cv => by
  refine h σ H rs as _ fun J H1 F1 ys Gd Yr e1 a1 W hG hY ⟨I, i0, turn, done⟩ => ?_
  refine for_it (D := D) (H := H1) (σ := σ) W (fun i σ' H' => ∃ S' F', Ev C F1 H1 F' H' ∧ RS K (C.hid F' H') S' σ' ∧ As C F' H' ∧ I i S' F') ⟨S, F1, Sub.refl _, rs.sub e1, a1, i0⟩ (fun i σ' H' _ ⟨S', F', e, _, a, _⟩ => hG F' H' e a) ?_ ?_
  · rintro i x σ' H' H3 hi ⟨S', F', e, rs', a, iv⟩ hy
    obtain ⟨e3, a3, y, ey, ry⟩ := hY i H' x H3 F' e a hi hy
    refine turn i y S' F' ey iv σ' H3 x (rs'.sub e3) a3 ry _ fun σ2 H2 S2 F2 e4 rs2 a4 hb => ?_
    refine hb σ2 H2 rs2 a4 _ ⟨fun σ5 H5 S5 F5 e5 rs5 a5 p => ⟨S5, F5, ((e.trans e3).trans e4).trans e5, rs5, a5, p⟩, fun v H5 x F5 e5 => cv.rt v H5 x F5 ((((e1.trans e).trans e3).trans e4).trans e5),
      fun σ5 H5 S5 F5 e5 => cv.nx σ5 H5 S5 F5 ((((e1.trans e).trans e3).trans e4).trans e5), fun σ5 H5 S5 F5 e5 rs5 a5 p => ⟨S5, F5, ((e.trans e3).trans e4).trans e5, rs5, a5, p⟩⟩
  · rintro σ' H' ⟨S', F', e, rs', a, iv⟩
    exact cv.nx σ' H' S' F' (e1.trans e) rs' a (done S' F' iv)
theorem st_while (I : Nat → SS → FP → Prop) (h0 : ∃ m, I m S F)
    (hs : ∀ m S' F', I m S' F' → TB C c S' F' fun b F2 => (b = true → ST C t S' F2 { nx := fun S3 F3 => ∃ m', m' < m ∧ I m' S3 F3, ct := fun S3 F3 => ∃ m', m' < m ∧ I m' S3 F3, bk := E.nx, rt := E.rt }) ∧ (b = false → E.nx S' F2)) : ST C (tWhile c t) S F E := fun σ H rs as D cv => by
  obtain ⟨m0, i0⟩ := h0
  refine ⟨fun m σ' H' => ∃ S' F', Ev C F H F' H' ∧ RS K (C.hid F' H') S' σ' ∧ As C F' H' ∧ I m S' F', ⟨m0, S, F, Sub.refl _, rs, as, i0⟩, ?_⟩
  rintro m σ' H' ⟨S', F', e, rs', a, iv⟩
  refine hs m S' F' iv σ' H' rs' a _ fun b H2 F2 e2 a2 hb => ?_
  cases b with
  | false => exact cv.nx σ' H2 S' F2 (e.trans e2) (rs'.sub e2) a2 (hb.2 rfl)
  | true =>
    refine ⟨fun σ3 H3 => ∃ m', m' < m ∧ ∃ S' F', Ev C F H F' H3 ∧ RS K (C.hid F' H3) S' σ3 ∧ As C F' H3 ∧ I m' S' F', fun σ3 H3 z => z, ?_⟩
    refine hb.1 rfl σ' H2 (rs'.sub e2) a2 _ ⟨fun σ5 H5 S5 F5 e5 rs5 a5 ⟨m', hm, p⟩ => ⟨m', hm, S5, F5, (e.trans e2).trans e5, rs5, a5, p⟩, fun v H5 x F5 e5 => cv.rt v H5 x F5 ((e.trans e2).trans e5),
      fun σ5 H5 S5 F5 e5 => cv.nx σ5 H5 S5 F5 ((e.trans e2).trans e5), fun σ5 H5 S5 F5 e5 rs5 a5 ⟨m', hm, p⟩ => ⟨m', hm, S5, F5, (e.trans e2).trans e5, rs5, a5, p⟩⟩

/-! ### what is walked -/
theorem it_list (h : TJ C te S F fun x F1 => ∃ ds, x = .d (.list ds) ∧ PL (ds.map .d) F1) : IT C (iList K te) S F PL := fun σ H rs as R q =>
  h σ H rs as _ fun v H1 x F1 e1 a1 r1 ⟨ds, ex, p⟩ => by
    subst ex
    cases r1 with
    | lst hl hd =>
      rename_i a xs
      refine ⟨a, rfl, ⟨xs, sql_sub hid_sub hl⟩, ?_⟩
      have hlen : xs.length = (ds.map SV.d).length := by rw [List.length_map]; exact dps_len hd
      refine q (Itl K a) H1 F1 (ds.map .d) (fun H2 => SqL K H2 a xs) (YAt xs) e1 a1 (hlen ▸ walk_list) (fun F2 H2 e a2 => sql_sub hid_sub (sql_sub e hl)) (fun i H2 v H3 F2 e a2 hi hy => ?_) p
      obtain ⟨e3, ev⟩ := hy
      subst e3
      obtain ⟨d, ed, rd⟩ := dps_getV hd ev
      exact ⟨Sub.refl _, a2, .d d, by rw [List.getElem?_map, ed]; rfl, dp_sub e rd⟩
theorem it_tup (h : TJ C te S F fun x F1 => ∃ ds, x = .d (.tuple ds) ∧ PL (ds.map .d) F1) : IT C (iTup K te) S F PL := fun σ H rs as R q =>
  h σ H rs as _ fun v H1 x F1 e1 a1 r1 ⟨ds, ex, p⟩ => by
    subst ex
    cases r1 with
    | tup hl hd =>
      rename_i a xs
      refine ⟨a, rfl, ⟨xs, sqt_sub hid_sub hl⟩, ?_⟩
      have hlen : xs.length = (ds.map SV.d).length := by rw [List.length_map]; exact dps_len hd
      refine q (Itt K a) H1 F1 (ds.map .d) (fun H2 => SqT K H2 a xs) (YAt xs) e1 a1 (hlen ▸ walk_tup) (fun F2 H2 e a2 => sqt_sub hid_sub (sqt_sub e hl)) (fun i H2 v H3 F2 e a2 hi hy => ?_) p
      obtain ⟨e3, ev⟩ := hy
      subst e3
      obtain ⟨d, ed, rd⟩ := dps_getV hd ev
      exact ⟨Sub.refl _, a2, .d d, by rw [List.getElem?_map, ed]; rfl, dp_sub e rd⟩
/-- lo, lo + 1, .. -/
def rg (lo : Int) (n : Nat) : List SV := (List.range n).map fun i => dI (lo + (i : Nat))
theorem rg_len {lo : Int} {n : Nat} : (rg lo n).length = n := by unfold rg; simp
theorem rg_get {lo : Int} {n i : Nat} {y : SV} (h : (rg lo n)[i]? = some y) : i < n ∧ y = dI (lo + i) := by
  unfold rg at h
  rw [List.getElem?_map] at h
  by_cases hi : i < n
  · rw [List.getElem?_range hi] at h
    exact ⟨hi, (Option.some.inj h).symm⟩
  · rw [List.getElem?_eq_none (by simpa using hi)] at h
    cases h
theorem it_rg {lo hi : Int} {H H1 : Hp} {F1 : FP} {R : It → Hp → Prop} (e1 : Ev C F H F1 H1) (a1 : As C F1 H1)
    (q : ∀ (J : It) H' F' (ys : List SV) (Gd : Hp → Prop) (Yr : Nat → Hp → V → Hp → Prop), Ev C F H F' H' → As C F' H' → Walk J ys.length Gd Yr → (∀ F2 H2, Ev C F' H' F2 H2 → As C F2 H2 → Gd H2) →
      (∀ i H2 v H3 F2, Ev C F' H' F2 H2 → As C F2 H2 → i < ys.length → Yr i H2 v H3 → Ev C F2 H2 F2 H3 ∧ As C F2 H3 ∧ ∃ y, ys[i]? = some y ∧ RV K (C.hid F2 H3) y v) → PL ys F' → R J H')
    (p : PL (rg lo (hi - lo).toNat) F1) : R (Itr lo (hi - lo).toNat) H1 := by
  refine q (Itr lo (hi - lo).toNat) H1 F1 (rg lo (hi - lo).toNat) (fun _ => True) (YFn fun i => .int (lo + i)) e1 a1 (by rw [rg_len]; exact walk_range) (fun _ _ _ _ => True.intro) (fun i H2 v H3 F2 e a2 hi hy => ?_) p
  obtain ⟨e3, ev⟩ := hy
  subst e3 ev
  rw [rg_len] at hi
  refine ⟨Sub.refl _, a2, dI (lo + i), ?_, rvI _⟩
  unfold rg
  rw [List.getElem?_map, List.getElem?_range hi]
  rfl
theorem it_rng1 (h : TL C tl S F fun xs F1 => ∃ j : Int, xs = [dI j] ∧ (-(2 ^ 62) ≤ j ∧ j < 2 ^ 62) ∧ PL (rg 0 j.toNat) F1) : IT C (iRng1 tl) S F PL := fun σ H rs as R q =>
  h σ H rs as _ fun vs H1 xs F1 e1 a1 r1 ⟨j, ex, ⟨b1, b2⟩, p⟩ => by
    subst ex
    cases r1 with
    | cons r t =>
      cases t
      refine ⟨j, by rw [r.int], b1, b2, ?_⟩
      have := it_rg (lo := 0) (hi := j) e1 a1 q (by rw [Int.sub_zero]; exact p)
      rw [Int.sub_zero] at this
      exact this
theorem it_rng2 (h : TL C tl S F fun xs F1 => ∃ i j : Int, xs = [dI i, dI j] ∧ (-(2 ^ 62) ≤ i ∧ i < 2 ^ 62 ∧ -(2 ^ 62) ≤ j ∧ j < 2 ^ 62) ∧ PL (rg i (j - i).toNat) F1) : IT C (iRng2 tl) S F PL := fun σ H rs as R q =>
  h σ H rs as _ fun vs H1 xs F1 e1 a1 r1 ⟨i, j, ex, b, p⟩ => by
    subst ex
    cases r1 with
    | cons r t => cases t with
      | cons r' t =>
        cases t
        exact ⟨i, j, by rw [r.int, r'.int], b, it_rg e1 a1 q p⟩
theorem it_revA (h : TJ C te S F fun x F1 => ∃ ds, (x = .d (.tuple ds) ∨ x = .d (.list ds)) ∧ PL (ds.reverse.map .d) F1) : IT C (iRevA K te) S F PL := fun σ H rs as R q =>
  h σ H rs as _ fun v H1 x F1 e1 a1 r1 ⟨ds, ex, p⟩ => by
    have key : ∀ (xs : List V) (i : Nat) (v : V) (H2 : Hp) (F2 : FP), DqAll K (C.hid F1 H1) xs ds → Ev C F1 H1 F2 H2 → i < xs.length → xs[xs.length - 1 - i]? = some v → ∃ y, (ds.reverse.map SV.d)[i]? = some y ∧ RV K (C.hid F2 H2) y v := by
      intro xs i v H2 F2 hd e hi hv
      obtain ⟨d, ed, rd⟩ := dps_getV hd hv
      have hl := dps_len hd
      refine ⟨.d d, ?_, dp_sub e rd⟩
      rw [List.getElem?_map, List.getElem?_reverse (by omega), show ds.length - 1 - i = xs.length - 1 - i by omega, ed]
      rfl
    rcases ex with ex | ex
    · subst ex
      cases r1 with
      | tup hl hd =>
        rename_i a xs
        have hlen : xs.length = (ds.reverse.map SV.d).length := by rw [List.length_map, List.length_reverse]; exact dps_len hd
        refine ⟨a, xs, rfl, .inr ⟨sqt_sub hid_sub hl, ?_⟩⟩
        refine q (ItvT K a xs.length) H1 F1 (ds.reverse.map .d) (fun H2 => SqT K H2 a xs) (fun i H x H' => H' = H ∧ xs[xs.length - 1 - i]? = some x) e1 a1 ?_ (fun F2 H2 e a2 => sqt_sub hid_sub (sqt_sub e hl)) (fun i H2 v H3 F2 e a2 hi hy => ?_) p
        · rw [← hlen]
          exact ⟨fun i _ hi q => ⟨hi, xs, xs[xs.length - 1 - i]'(by omega), q, by simp [show xs.length - 1 - i < xs.length by omega]⟩, fun _ _ => Nat.le_refl _, fun _ _ _ _ _ q y => ⟨y.1, y.2 xs q⟩⟩
        · obtain ⟨e3, ev⟩ := hy
          subst e3
          obtain ⟨y, h1, h2⟩ := key xs i v _ F2 hd e (by omega) ev
          exact ⟨Sub.refl _, a2, y, h1, h2⟩
    · subst ex
      cases r1 with
      | lst hl hd =>
        rename_i a xs
        have hlen : xs.length = (ds.reverse.map SV.d).length := by rw [List.length_map, List.length_reverse]; exact dps_len hd
        refine ⟨a, xs, rfl, .inl ⟨sql_sub hid_sub hl, ?_⟩⟩
        refine q (Itv K a xs.length) H1 F1 (ds.reverse.map .d) (fun H2 => SqL K H2 a xs) (fun i H x H' => H' = H ∧ xs[xs.length - 1 - i]? = some x) e1 a1 (by rw [← hlen]; exact walk_rev) (fun F2 H2 e a2 => sql_sub hid_sub (sql_sub e hl)) (fun i H2 v H3 F2 e a2 hi hy => ?_) p
        obtain ⟨e3, ev⟩ := hy
        subst e3
        obtain ⟨y, h1, h2⟩ := key xs i v _ F2 hd e (by omega) ev
        exact ⟨Sub.refl _, a2, y, h1, h2⟩

/-! ### operations on ints -/
theorem ro_I0 {g : Int → Int → V} {f : Int → Int → PyData} (hf : ∀ (H : Hp) i j, Dq K H (g i j) (f i j)) {i j : Int} (k : P (.d (f i j)) F) : RO C (rI0 g) (dI i) (dI j) F P := fun H v w as rv rw Q q =>
  ⟨i, j, rv.int, rw.int, q _ H (.d (f i j)) F (Sub.refl _) as (hf _ i j) k⟩
theorem ro_I {Cd : Int → Int → Prop} {g : Int → Int → V} {f : Int → Int → PyData} (hf : ∀ (H : Hp) i j, Dq K H (g i j) (f i j)) {i j : Int} (hc : Cd i j) (k : P (.d (f i j)) F) : RO C (rI Cd g) (dI i) (dI j) F P := fun H v w as rv rw Q q =>
  ⟨i, j, rv.int, rw.int, hc, q _ H (.d (f i j)) F (Sub.refl _) as (hf _ i j) k⟩
theorem ro_add {i j : Int} (k : P (dI (i + j)) F) : RO C (rI0 fun i j => .int (i + j)) (dI i) (dI j) F P := ro_I0 (f := fun i j => .int (i + j)) (fun _ _ _ => .int _) k
theorem ro_sub {i j : Int} (k : P (dI (i - j)) F) : RO C (rI0 fun i j => .int (i - j)) (dI i) (dI j) F P := ro_I0 (f := fun i j => .int (i - j)) (fun _ _ _ => .int _) k
theorem ro_mul {Cd : Int → Int → Prop} {i j : Int} (hc : Cd i j) (k : P (dI (i * j)) F) : RO C (rI Cd fun i j => .int (i * j)) (dI i) (dI j) F P := ro_I (f := fun i j => .int (i * j)) (fun _ _ _ => .int _) hc k
theorem ro_div {Cd : Int → Int → Prop} {i j : Int} (hc : Cd i j) (k : P (dI (i / j)) F) : RO C (rI Cd fun i j => .int (i / j)) (dI i) (dI j) F P := ro_I (f := fun i j => .int (i / j)) (fun _ _ _ => .int _) hc k
theorem ro_mod {Cd : Int → Int → Prop} {i j : Int} (hc : Cd i j) (k : P (dI (i % j)) F) : RO C (rI Cd fun i j => .int (i % j)) (dI i) (dI j) F P := ro_I (f := fun i j => .int (i % j)) (fun _ _ _ => .int _) hc k
theorem ro_pow {Cd : Int → Int → Prop} {i j : Int} (hc : Cd i j) (k : P (dI (i ^ j.toNat)) F) : RO C (rI Cd fun i j => .int (i ^ j.toNat)) (dI i) (dI j) F P := ro_I (f := fun i j => .int (i ^ j.toNat)) (fun _ _ _ => .int _) hc k
theorem ro_lt {i j : Int} (k : P (dB (decide (i < j))) F) : RO C (rI0 fun i j => .bl (decide (i < j))) (dI i) (dI j) F P := ro_I0 (f := fun i j => .bool (decide (i < j))) (fun _ _ _ => .bl _) k
theorem ro_le {i j : Int} (k : P (dB (decide (i ≤ j))) F) : RO C (rI0 fun i j => .bl (decide (i ≤ j))) (dI i) (dI j) F P := ro_I0 (f := fun i j => .bool (decide (i ≤ j))) (fun _ _ _ => .bl _) k
theorem ro_gt {i j : Int} (k : P (dB (decide (j < i))) F) : RO C (rI0 fun i j => .bl (decide (j < i))) (dI i) (dI j) F P := ro_I0 (f := fun i j => .bool (decide (j < i))) (fun _ _ _ => .bl _) k
theorem ro_ge {i j : Int} (k : P (dB (decide (j ≤ i))) F) : RO C (rI0 fun i j => .bl (decide (j ≤ i))) (dI i) (dI j) F P := ro_I0 (f := fun i j => .bool (decide (j ≤ i))) (fun _ _ _ => .bl _) k
theorem ru_neg {i : Int} (k : P (dI (-i)) F) : RU C (rU fun i => .int (-i)) (dI i) F P := fun H v as rv Q q => ⟨i, rv.int, q _ H (dI (-i)) F (Sub.refl _) as (rvI _) k⟩

/-! ### == and != of data -/
theorem ro_eqD {d e : PyData} (hd : SeqAt.shaped d = true) (he : SeqAt.shaped e = true) (k : P (dB (PyData.eqv d e)) F) (hd2 : noDic d = true := by rfl) (he2 : noDic e = true := by rfl) : RO C (rEqD K) (.d d) (.d e) F P := fun H v w as rv rw Q q =>
  ⟨d, e, dq_dp (dp_sub hid_sub rv) hd2, dq_dp (dp_sub hid_sub rw) he2, hd, he, q _ H (dB _) F (Sub.refl _) as (rvB _) k⟩
theorem ro_neD {d e : PyData} (hd : SeqAt.shaped d = true) (he : SeqAt.shaped e = true) (k : P (dB (!PyData.eqv d e)) F) (hd2 : noDic d = true := by rfl) (he2 : noDic e = true := by rfl) : RO C (rNeD K) (.d d) (.d e) F P := fun H v w as rv rw Q q =>
  ⟨d, e, dq_dp (dp_sub hid_sub rv) hd2, dq_dp (dp_sub hid_sub rw) he2, hd, he, q _ H (dB _) F (Sub.refl _) as (rvB _) k⟩
theorem shaped_int (i : Int) : SeqAt.shaped (.int i) = true := by rfl
theorem ro_eqI {i j : Int} (k : P (dB (i == j)) F) : RO C (rEqD K) (dI i) (dI j) F P := ro_eqD rfl rfl k
theorem ro_neI {i j : Int} (k : P (dB (i != j)) F) : RO C (rNeD K) (dI i) (dI j) F P := ro_neD rfl rfl k

/-! ### items -/
theorem ro_ixT {ds : List PyData} {i : Int} {d : PyData} (h : atI ds i = some d) (k : P (.d d) F) : RO C (rIx K) (.d (.tuple ds)) (dI i) F P := fun H v w as rv rw Q q => by
  cases rv with
  | tup hl hd =>
    rename_i a xs
    have e := rw.int
    subst e
    obtain ⟨j, h1, h2⟩ := Option.bind_eq_some_iff.mp h
    obtain ⟨z, ez, rz⟩ := dps_get hd h2
    have hl2 := dps_len hd
    refine .inr (.inl ⟨a, xs, i, z, rfl, rfl, sqt_sub hid_sub hl, ?_, q z H (.d d) F (Sub.refl _) as rz k⟩)
    unfold atI
    rw [hl2, h1]
    exact ez
theorem ro_ixL {ds : List PyData} {i : Int} {d : PyData} (h : atI ds i = some d) (k : P (.d d) F) : RO C (rIx K) (.d (.list ds)) (dI i) F P := fun H v w as rv rw Q q => by
  cases rv with
  | lst hl hd =>
    rename_i a xs
    have e := rw.int
    subst e
    obtain ⟨j, h1, h2⟩ := Option.bind_eq_some_iff.mp h
    obtain ⟨z, ez, rz⟩ := dps_get hd h2
    have hl2 := dps_len hd
    refine .inl ⟨a, xs, i, z, rfl, rfl, sql_sub hid_sub hl, ?_, q z H (.d d) F (Sub.refl _) as rz k⟩
    unfold atI
    rw [hl2, h1]
    exact ez
theorem rvs_len {H : Hp} {xs : List SV} {vs : List V} (h : RVs K H xs vs) : xs.length = vs.length := Paired.length h
theorem rvs_get {H : Hp} : ∀ {xs : List SV} {vs : List V} {i : Nat} {x : SV}, RVs K H xs vs → xs[i]? = some x → ∃ v, vs[i]? = some v ∧ RV K H x v
  | _, _, _, _, .nil, h => by simp at h
  | _, _, 0, _, .cons h a, e => by simp at e; subst e; exact ⟨_, rfl, h⟩
  | _, _, i + 1, _, .cons h a, e => by
    obtain ⟨v, q, r⟩ := rvs_get (i := i) a (by simpa using e)
    exact ⟨v, by simpa using q, r⟩
/-- an item of an owned list -/
theorem ro_ixM {a : Addr} {xs : List SV} {i : Int} {x : SV} (hm : (a, .lst xs) ∈ F) (h : atI xs i = some x) (k : P x F) : RO C (rIx K) (.m a) (dI i) F P := fun H v w as rv rw Q q => by
  cases (show v = .ref a from rv)
  have e := rw.int
  subst e
  obtain ⟨vs, h1, h2⟩ := as.mem _ hm
  obtain ⟨j, hj, hx⟩ := Option.bind_eq_some_iff.mp h
  obtain ⟨z, ez, rz⟩ := rvs_get h2 hx
  refine .inl ⟨a, vs, i, z, rfl, rfl, SqL.of h1, ?_, q z H x F (Sub.refl _) as rz k⟩
  unfold atI
  rw [← rvs_len h2, hj]
  exact ez
theorem atI_nat' {α : Type} {xs : List α} {i : Int} {v : α} (h0 : 0 ≤ i) (h : xs[i.toNat]? = some v) : atI xs i = some v := by
  have : i = (i.toNat : Int) := by omega
  rw [this]
  exact atI_nat h

/-! ### displays -/
/-- frozen: the data that stands for a value, and the footprint without the objects that froze -/
inductive Frz : FP → SV → FP → PyData → Prop
  | d {F : FP} (x : PyData) : Frz F (.d x) F x
  | m {F : FP} {a : Addr} {ds : List PyData} : (a, MO.lst (ds.map .d)) ∈ F → Frz F (.m a) (F.filter fun q => decide (q.1 ≠ a)) (.list ds)
inductive FrzAll : FP → List SV → FP → List PyData → Prop
  | nil {F : FP} : FrzAll F [] F []
  | cons {F F1 F2 : FP} {x : SV} {d : PyData} {xs : List SV} {ds : List PyData} : Frz F x F1 d → FrzAll F1 xs F2 ds → FrzAll F (x :: xs) F2 (d :: ds)
theorem filter_key {F : FP} {a b : Addr} : b ∈ (F.filter fun q => decide (q.1 ≠ a)).map (·.1) ↔ b ∈ F.map (·.1) ∧ b ≠ a := by
  constructor
  · intro h
    obtain ⟨q, hq, rfl⟩ := List.mem_map.mp h
    obtain ⟨h1, h2⟩ := List.mem_filter.mp hq
    exact ⟨List.mem_map.mpr ⟨q, h1, rfl⟩, of_decide_eq_true h2⟩
  · intro ⟨h, hn⟩
    obtain ⟨q, hq, rfl⟩ := List.mem_map.mp h
    exact List.mem_map.mpr ⟨q, List.mem_filter.mpr ⟨hq, decide_eq_true hn⟩, rfl⟩
theorem As.drop {H : Hp} (a : As C F H) (b : Addr) : Ev C F H (F.filter fun q => decide (q.1 ≠ b)) H ∧ As C (F.filter fun q => decide (q.1 ≠ b)) H := by
  have ev : Ev C F H (F.filter fun q => decide (q.1 ≠ b)) H := fun p o h => by
    obtain ⟨⟨h1, h2, h3⟩, h4⟩ := hid_some.mp h
    exact hid_some.mpr ⟨⟨h1, h2, fun z => h3 (filter_key.mp z).1⟩, h4⟩
  refine ⟨ev, a.ex, a.tab, ?_, fun p h => a.own p (filter_key.mp h).1, fun q hq => (a.mem q (List.mem_filter.mp hq).1).sub ev rfl⟩
  exact (a.nd.sublist (List.Sublist.map _ List.filter_sublist))
theorem As.frz {H : Hp} {F1 : FP} {d : PyData} {v : V} (a : As C F H) (z : Frz F x F1 d) (r : RV K (C.hid F H) x v) (nU : ∀ a, x = .m a → ¬ C.U a) : Ev C F H F1 H ∧ As C F1 H ∧ RV K (C.hid F1 H) (.d d) v := by
  cases z with
  | d x => exact ⟨Sub.refl _, a, r⟩
  | m hm =>
    rename_i p ds
    obtain ⟨ev, a1⟩ := a.drop p
    cases (show v = .ref p from r)
    obtain ⟨vs, h1, h2⟩ := a.mem _ hm
    refine ⟨ev, a1, .lst (.inl (.inl ?_)) (rvs_d (h2.sub ev))⟩
    refine hid_some.mpr ⟨⟨nU p rfl, (a.own p (List.mem_map.mpr ⟨_, hm, rfl⟩)).1, fun z => (filter_key.mp z).2 rfl⟩, h1⟩
theorem As.notU {H : Hp} (a : As C F H) {p : Addr} (h : p ∈ F.map (·.1)) : ¬ C.U p := fun z => by
  obtain ⟨h1, _, h3⟩ := C.hU p z
  rcases (a.own p h).2 with q | q
  · exact h1 q
  · exact h3.1 q
theorem As.frz' {H : Hp} {F1 : FP} {d : PyData} {v : V} (a : As C F H) (z : Frz F x F1 d) (r : RV K (C.hid F H) x v) : Ev C F H F1 H ∧ As C F1 H ∧ RV K (C.hid F1 H) (.d d) v :=
  a.frz z r fun p e => by
    subst e
    cases z with
    | m hm => exact a.notU (List.mem_map.mpr ⟨_, hm, rfl⟩)
theorem As.frzAll {H : Hp} {xs : List SV} {F F2 : FP} {ds : List PyData} (z : FrzAll F xs F2 ds) : ∀ {vs : List V}, As C F H → RVs K (C.hid F H) xs vs → Ev C F H F2 H ∧ As C F2 H ∧ DqAll K (C.hid F2 H) vs ds := by
  induction z with
  | nil =>
    intro vs a r
    cases r
    exact ⟨Sub.refl _, a, .nil⟩
  | cons z1 z2 ih =>
    intro vs a r
    cases r with
    | cons r1 r2 =>
      obtain ⟨e1, a1, q1⟩ := a.frz' z1 r1
      obtain ⟨e2, a2, q2⟩ := ih a1 (RVs.sub e1 r2)
      exact ⟨e1.trans e2, a2, .cons (dp_sub e2 q1) q2⟩
theorem As.newT {H : Hp} {p : Addr} {vs : List V} {ds : List PyData} (a : As C F H) (hp : H p = none) (hd : DqAll K (C.hid F H) vs ds) :
    Ev C F H F (upd H p (.tup vs)) ∧ As C F (upd H p (.tup vs)) ∧ RV K (C.hid F (upd H p (.tup vs))) (.d (.tuple ds)) (.ref p) := by
  obtain ⟨ev, a1⟩ := a.laid (o := .tup vs) hp
  exact ⟨ev, a1, .tup (.inl (.inl (a.seen hp))) (dps_sub ev hd)⟩
theorem As.newL {H : Hp} {p : Addr} {vs : List V} {ds : List PyData} (a : As C F H) (hp : H p = none) (hd : DqAll K (C.hid F H) vs ds) :
    Ev C F H F (upd H p (.lst vs)) ∧ As C F (upd H p (.lst vs)) ∧ RV K (C.hid F (upd H p (.lst vs))) (.d (.list ds)) (.ref p) := by
  obtain ⟨ev, a1⟩ := a.laid (o := .lst vs) hp
  exact ⟨ev, a1, .lst (.inl (.inl (a.seen hp))) (dps_sub ev hd)⟩
theorem tj_tup (h : TL C tl S F fun xs F1 => ∃ ds F2, FrzAll F1 xs F2 ds ∧ xs.length ≤ 1000 ∧ P (.d (.tuple ds)) F2) : TJ C (tTup tl) S F P := fun σ H rs as Q q =>
  h σ H rs as _ fun vs H1 xs F1 e1 a1 r1 ⟨ds, F2, z, hz, p⟩ => by
    obtain ⟨e2, a2, hd⟩ := As.frzAll z a1 r1
    refine ⟨Nat.le_trans (by rw [← rvs_len r1]; exact hz) (by decide), fun l hl => ?_⟩
    obtain ⟨e3, a3, r3⟩ := a2.newT hl hd
    exact q _ _ _ F2 ((e1.trans e2).trans e3) a3 r3 p
/-- a new list, owned -/
theorem tj_lst (h : TL C tl S F fun xs F1 => xs.length ≤ 1000 ∧ ∀ l, l ∉ F1.map (·.1) → P (.m l) ((l, .lst xs) :: F1)) : TJ C (tLst tl) S F P := fun σ H rs as Q q =>
  h σ H rs as _ fun vs H1 xs F1 e1 a1 r1 ⟨hz, p⟩ => by
    refine ⟨Nat.le_trans (by rw [← rvs_len r1]; exact hz) (by decide), fun l hl => ?_⟩
    obtain ⟨e3, a3⟩ := a1.new (o := .lst vs) (mo := .lst xs) hl fun Hh sb => ⟨vs, upd_same, r1.sub sb⟩
    exact q _ _ (.m l) _ (e1.trans e3) a3 rfl (p l fun z => a1.there z hl)
/-- a new list, frozen -/
theorem tj_lstD (h : TL C tl S F fun xs F1 => ∃ ds F2, FrzAll F1 xs F2 ds ∧ xs.length ≤ 1000 ∧ P (.d (.list ds)) F2) : TJ C (tLst tl) S F P := fun σ H rs as Q q =>
  h σ H rs as _ fun vs H1 xs F1 e1 a1 r1 ⟨ds, F2, z, hz, p⟩ => by
    obtain ⟨e2, a2, hd⟩ := As.frzAll z a1 r1
    refine ⟨Nat.le_trans (by rw [← rvs_len r1]; exact hz) (by decide), fun l hl => ?_⟩
    obtain ⟨e3, a3, r3⟩ := a2.newL hl hd
    exact q _ _ _ F2 ((e1.trans e2).trans e3) a3 r3 p
end
end G

namespace G
open PySem L2 RT
section
variable {K : PySem.W.Frag} {T : List Tb} {C : CC K T} {S : SS} {F : FP} {P : SV → FP → Prop} {PB : Bool → FP → Prop} {PL : List SV → FP → Prop} {te ta tb : TE} {tt tu : TT} {tl : TA} {x y z : SV} {r : R2}
/-! ### calls of built-ins, on values -/
theorem rvs1 {H : Hp} {x : SV} {vs : List V} (h : RVs K H [x] vs) : ∃ v, vs = [v] ∧ RV K H x v := by
  cases h with
  | cons a t => cases t; exact ⟨_, rfl, a⟩
theorem rvs2 {H : Hp} {x y : SV} {vs : List V} (h : RVs K H [x, y] vs) : ∃ v w, vs = [v, w] ∧ RV K H x v ∧ RV K H y w := by
  cases h with
  | cons a t => cases t with
    | cons b t => cases t; exact ⟨_, _, rfl, a, b⟩
theorem rc_abs {i : Int} (k : P (dI (if i < 0 then -i else i)) F) : RC C (fun xs H Q => ∃ i, xs = [V.int i] ∧ Q (.int (if i < 0 then -i else i)) H) [dI i] F P := fun H vs as r Q q => by
  obtain ⟨v, rfl, rv⟩ := rvs1 r
  exact ⟨i, by rw [rv.int], q _ H (dI _) F (Sub.refl _) as (rvI _) k⟩
theorem rc_max2 {i j : Int} (k : P (dI (if j > i then j else i)) F) : RC C (fun xs H Q => ∃ i j, xs = [V.int i, V.int j] ∧ Q (.int (if j > i then j else i)) H) [dI i, dI j] F P := fun H vs as r Q q => by
  obtain ⟨v, w, rfl, rv, rw'⟩ := rvs2 r
  exact ⟨i, j, by rw [rv.int, rw'.int], q _ H (dI _) F (Sub.refl _) as (rvI _) k⟩
theorem rc_min2 {i j : Int} (k : P (dI (if j < i then j else i)) F) : RC C (fun xs H Q => ∃ i j, xs = [V.int i, V.int j] ∧ Q (.int (if j < i then j else i)) H) [dI i, dI j] F P := fun H vs as r Q q => by
  obtain ⟨v, w, rfl, rv, rw'⟩ := rvs2 r
  exact ⟨i, j, by rw [rv.int, rw'.int], q _ H (dI _) F (Sub.refl _) as (rvI _) k⟩
theorem rc_int {i : Int} (k : P (dI i) F) : RC C (fun xs H Q => (∃ i, xs = [V.int i] ∧ Q (.int i) H) ∨ ∃ k, xs = [V.bl k] ∧ Q (.int (if k then 1 else 0)) H) [dI i] F P := fun H vs as r Q q => by
  obtain ⟨v, rfl, rv⟩ := rvs1 r
  exact .inl ⟨i, by rw [rv.int], q _ H (dI _) F (Sub.refl _) as (rvI _) k⟩
theorem rc_gcd {i j : Int} (k : P (dI ((Nat.gcd i.natAbs j.natAbs : Nat) : Int)) F) : RC C rGcd [dI i, dI j] F P := fun H vs as r Q q => by
  obtain ⟨v, w, rfl, rv, rw'⟩ := rvs2 r
  exact ⟨i, j, by rw [rv.int, rw'.int], q _ H (dI _) F (Sub.refl _) as (rvI _) k⟩
/-- len of data, of an owned list -/
def rLen (K : PySem.W.Frag) : List V → Hp → VK → Prop := fun xs H Q => ∃ x n, xs = [x] ∧ LenV K x H n ∧ Q (.int (n : Nat)) H
theorem rc_lenT {ds : List PyData} (k : P (dI (ds.length : Int)) F) : RC C (fun xs H Q => ∃ p ys, xs = [V.ref p] ∧ (SqL K H p ys ∨ SqT K H p ys) ∧ Q (.int ys.length) H) [.d (.tuple ds)] F P := fun H vs as r Q q => by
  obtain ⟨v, rfl, rv⟩ := rvs1 r
  cases rv with
  | tup hl hd =>
    refine ⟨_, _, rfl, .inr (sqt_sub hid_sub hl), ?_⟩
    rw [dps_len hd]
    exact q _ H (dI _) F (Sub.refl _) as (rvI _) k
theorem rc_lenL {ds : List PyData} (k : P (dI (ds.length : Int)) F) : RC C (fun xs H Q => ∃ p ys, xs = [V.ref p] ∧ (SqL K H p ys ∨ SqT K H p ys) ∧ Q (.int ys.length) H) [.d (.list ds)] F P := fun H vs as r Q q => by
  obtain ⟨v, rfl, rv⟩ := rvs1 r
  cases rv with
  | lst hl hd =>
    refine ⟨_, _, rfl, .inl (sql_sub hid_sub hl), ?_⟩
    rw [dps_len hd]
    exact q _ H (dI _) F (Sub.refl _) as (rvI _) k
theorem rc_lenM {a : Addr} {xs : List SV} (hm : (a, .lst xs) ∈ F) (k : P (dI (xs.length : Int)) F) : RC C (fun xs H Q => ∃ p ys, xs = [V.ref p] ∧ (SqL K H p ys ∨ SqT K H p ys) ∧ Q (.int ys.length) H) [.m a] F P := fun H vs as r Q q => by
  obtain ⟨v, rfl, rv⟩ := rvs1 r
  cases (show v = .ref a from rv)
  obtain ⟨us, h1, h2⟩ := as.mem _ hm
  refine ⟨_, _, rfl, .inl (SqL.of h1), ?_⟩
  rw [← rvs_len h2]
  exact q _ H (dI _) F (Sub.refl _) as (rvI _) k
/-- list(x): a new list, owned or frozen -/
abbrev rListOf (K : PySem.W.Frag) : List V → Hp → VK → Prop := fun xs H Q => ∃ p ys, xs = [V.ref p] ∧ (SqL K H p ys ∨ SqT K H p ys) ∧ ∀ l, H l = none → Q (.ref l) (upd H l (.lst ys))
theorem rc_listD {ds : List PyData} (hx : x = .d (.list ds) ∨ x = .d (.tuple ds)) (k : P (.d (.list ds)) F) : RC C (rListOf K) [x] F P := fun H vs as r Q q => by
  obtain ⟨v, rfl, rv⟩ := rvs1 r
  have key : ∃ p ys, v = .ref p ∧ (SqL K H p ys ∨ SqT K H p ys) ∧ DqAll K (C.hid F H) ys ds := by
    rcases hx with e | e
    · subst e
      cases rv with
      | lst hl hd => exact ⟨_, _, rfl, .inl (sql_sub hid_sub hl), hd⟩
    · subst e
      cases rv with
      | tup hl hd => exact ⟨_, _, rfl, .inr (sqt_sub hid_sub hl), hd⟩
  obtain ⟨p, ys, rfl, h1, h2⟩ := key
  refine ⟨p, ys, rfl, h1, fun l hl => ?_⟩
  obtain ⟨e3, a3, r3⟩ := as.newL hl h2
  exact q _ _ _ F e3 a3 r3 k
theorem rc_listO {ds : List PyData} (hx : x = .d (.list ds) ∨ x = .d (.tuple ds)) (k : ∀ l, l ∉ F.map (·.1) → P (.m l) ((l, .lst (ds.map .d)) :: F)) : RC C (rListOf K) [x] F P := fun H vs as r Q q => by
  obtain ⟨v, rfl, rv⟩ := rvs1 r
  have key : ∃ p ys, v = .ref p ∧ (SqL K H p ys ∨ SqT K H p ys) ∧ DqAll K (C.hid F H) ys ds := by
    rcases hx with e | e
    · subst e
      cases rv with
      | lst hl hd => exact ⟨_, _, rfl, .inl (sql_sub hid_sub hl), hd⟩
    · subst e
      cases rv with
      | tup hl hd => exact ⟨_, _, rfl, .inr (sqt_sub hid_sub hl), hd⟩
  obtain ⟨p, ys, rfl, h1, h2⟩ := key
  refine ⟨p, ys, rfl, h1, fun l hl => ?_⟩
  obtain ⟨e3, a3⟩ := as.new (o := .lst ys) (mo := .lst (ds.map .d)) hl fun Hh sb => ⟨ys, upd_same, (d_rvs h2).sub sb⟩
  exact q _ _ (.m l) _ e3 a3 rfl (k l fun z => as.there z hl)
/-- tuple(x) -/
abbrev rTupleOf (K : PySem.W.Frag) : List V → Hp → VK → Prop := fun xs H Q => ∃ p ys, xs = [V.ref p] ∧ ((SqL K H p ys ∧ ∀ l, H l = none → Q (.ref l) (upd H l (.tup ys))) ∨ (SqT K H p ys ∧ Q (.ref p) H))
theorem rc_tupleD {ds : List PyData} (hx : x = .d (.list ds) ∨ x = .d (.tuple ds)) (k : P (.d (.tuple ds)) F) : RC C (rTupleOf K) [x] F P := fun H vs as r Q q => by
  obtain ⟨v, rfl, rv⟩ := rvs1 r
  rcases hx with e | e
  · subst e
    cases rv with
    | lst hl hd =>
      refine ⟨_, _, rfl, .inl ⟨sql_sub hid_sub hl, fun l hl => ?_⟩⟩
      obtain ⟨e3, a3, r3⟩ := as.newT hl hd
      exact q _ _ _ F e3 a3 r3 k
  · subst e
    have rv0 := rv
    cases rv with
    | tup hl hd => exact ⟨_, _, rfl, .inr ⟨sqt_sub hid_sub hl, q _ H _ F (Sub.refl _) as rv0 k⟩⟩
/-- tuple(an owned list of data): the list is left as it is -/
theorem rc_tupleM {a : Addr} {ds : List PyData} (hm : (a, .lst (ds.map .d)) ∈ F) (k : P (.d (.tuple ds)) F) : RC C (rTupleOf K) [.m a] F P := fun H vs as r Q q => by
  obtain ⟨v, rfl, rv⟩ := rvs1 r
  cases (show v = .ref a from rv)
  obtain ⟨us, h1, h2⟩ := as.mem _ hm
  refine ⟨_, _, rfl, .inl ⟨SqL.of h1, fun l hl => ?_⟩⟩
  obtain ⟨e3, a3, r3⟩ := as.newT hl (rvs_d h2)
  exact q _ _ _ F e3 a3 r3 k
theorem rc_listM {a : Addr} {ds : List PyData} (hm : (a, .lst (ds.map .d)) ∈ F) (k : P (.d (.list ds)) F) : RC C (rListOf K) [.m a] F P := fun H vs as r Q q => by
  obtain ⟨v, rfl, rv⟩ := rvs1 r
  cases (show v = .ref a from rv)
  obtain ⟨us, h1, h2⟩ := as.mem _ hm
  refine ⟨_, _, rfl, .inl (SqL.of h1), fun l hl => ?_⟩
  obtain ⟨e3, a3, r3⟩ := as.newL hl (rvs_d h2)
  exact q _ _ _ F e3 a3 r3 k
/-- the list of ints at a value -/
def IntsL (F : FP) (x : SV) (ns : List Int) : Prop := x = .d (.list (ns.map .int)) ∨ ∃ a, x = .m a ∧ (a, MO.lst (ns.map dI)) ∈ F
theorem dI_map (ns : List Int) : ns.map dI = (ns.map PyData.int).map SV.d := by rw [List.map_map]; rfl
theorem IntsL.sq {H : Hp} {ns : List Int} {v : V} (as : As C F H) (h : IntsL F x ns) (r : RV K (C.hid F H) x v) : ∃ a, v = .ref a ∧ SqL K H a (ns.map V.int) := by
  rcases h with e | ⟨a, e, hm⟩
  · subst e
    cases r with
    | lst hl hd =>
      rw [dps_ints hd] at hl
      exact ⟨_, rfl, sql_sub hid_sub hl⟩
  · subst e
    cases (show v = .ref a from r)
    obtain ⟨us, h1, h2⟩ := as.mem _ hm
    rw [dI_map] at h2
    rw [dps_ints (rvs_d h2)] at h1
    exact ⟨a, rfl, SqL.of h1⟩
theorem rc_sum {ns : List Int} (h : IntsL F x ns) (k : P (dI ns.sum) F) : RC C (rSum K) [x] F P := fun H vs as r Q q => by
  obtain ⟨v, rfl, rv⟩ := rvs1 r
  obtain ⟨a, rfl, h1⟩ := h.sq as rv
  exact ⟨a, ns, rfl, h1, q _ H (dI _) F (Sub.refl _) as (rvI _) k⟩
theorem rc_max {ns : List Int} (h : IntsL F x ns) (hn : ns ≠ []) (k : ∀ m, m ∈ ns → (∀ y, y ∈ ns → y ≤ m) → P (dI m) F) : RC C (rMax K) [x] F P := fun H vs as r Q q => by
  obtain ⟨v, rfl, rv⟩ := rvs1 r
  obtain ⟨a, rfl, h1⟩ := h.sq as rv
  exact ⟨a, ns, rfl, h1, List.length_pos_iff.mpr hn, fun m h2 h3 => q _ H (dI _) F (Sub.refl _) as (rvI _) (k m h2 h3)⟩
theorem rc_min {ns : List Int} (h : IntsL F x ns) (hn : ns ≠ []) (k : ∀ m, m ∈ ns → (∀ y, y ∈ ns → m ≤ y) → P (dI m) F) : RC C (rMin K) [x] F P := fun H vs as r Q q => by
  obtain ⟨v, rfl, rv⟩ := rvs1 r
  obtain ⟨a, rfl, h1⟩ := h.sq as rv
  exact ⟨a, ns, rfl, h1, List.length_pos_iff.mpr hn, fun m h2 h3 => q _ H (dI _) F (Sub.refl _) as (rvI _) (k m h2 h3)⟩
/-- sorted(ints), frozen -/
theorem rc_sortedI {ns : List Int} (h : IntsL F x ns) (k : ∀ ns' : List Int, ns'.Perm ns → ns'.Pairwise (· ≤ ·) → P (.d (.list (ns'.map .int))) F) : RC C (rSortedI K) [x] F P := fun H vs as r Q q => by
  obtain ⟨v, rfl, rv⟩ := rvs1 r
  obtain ⟨a, rfl, h1⟩ := h.sq as rv
  refine ⟨a, ns, rfl, h1, fun ns' p h2 h3 hp => ?_⟩
  obtain ⟨e3, a3, r3⟩ := as.newL hp (ints_dps (K := K) (H := C.hid F H) ns')
  exact q _ _ _ F e3 a3 r3 (k ns' h2 h3)

/-! ### owned lists changed -/
variable {E : SE} {t u : TS}
/-- xs.append(e): e may be anything that is told -/
theorem tj_append (h : TJ C ta S F fun v F1 => ∃ a xs1, v = .m a ∧ (a, MO.lst xs1) ∈ F1 ∧ TJ C te S F1 fun y F2 => ∃ xs, (a, MO.lst xs) ∈ F2 ∧ xs.length < 16000000 ∧ P dN (setF F2 a (.lst (xs ++ [y])))) :
    TJ C (tBM K "list" rAppend ta (tCons te tNil)) S F P := fun σ H rs as Q q =>
  h σ H rs as _ fun v H1 x F1 e1 a1 r1 ⟨a, xs1, ex, hm1, h1⟩ => by
    subst ex
    cases (show v = .ref a from r1)
    obtain ⟨us1, g1, g2⟩ := a1.mem _ hm1
    refine ⟨.inl ⟨rfl, us1, SqL.of g1⟩, h1 σ H1 (rs.sub e1) a1 _ fun y H2 z F2 e2 a2 r2 ⟨xs, hm, hz, p⟩ => ?_⟩
    obtain ⟨us, g3, g4⟩ := a2.mem _ hm
    refine ⟨a, us, y, rfl, rfl, g3, Nat.lt_of_lt_of_le (by rw [← rvs_len g4]; exact hz) (by decide), ?_⟩
    obtain ⟨e3, a3⟩ := a2.put (o := .lst (us ++ [y])) (mo' := .lst (xs ++ [z])) hm ⟨us ++ [y], upd_same, by
      clear g3 hz p hm
      induction g4 with
      | nil => exact .cons r2 .nil
      | cons a b ih => exact .cons a ih⟩
    exact q _ _ dN _ ((e1.trans e2).trans e3) a3 rvN p
theorem rvs_set {H : Hp} {y : SV} {v : V} (r : RV K H y v) : ∀ {xs : List SV} {vs : List V} (j : Nat), RVs K H xs vs → RVs K H (xs.set j y) (vs.set j v)
  | _, _, _, .nil => .nil
  | _, _, 0, .cons _ t => .cons r t
  | _, _, j + 1, .cons a t => .cons a (rvs_set r j t)
/-- xs[i] = y -/
theorem tg_setL {to ti : TE} {PS : SS → FP → Prop} (h : TJ C to S F fun o F1 => TJ C ti S F1 fun i F2 => ∃ a xs k j, o = .m a ∧ i = dI k ∧ (a, MO.lst xs) ∈ F2 ∧ ixN xs.length k = some j ∧ PS S (setF F2 a (.lst (xs.set j y)))) : TGJ C (gSub to ti rSetL) y S F PS := fun σ H v rs as r Q q =>
  h σ H rs as _ fun ov H1 o F1 e1 a1 r1 h1 => h1 σ H1 (rs.sub e1) a1 _ fun iv H2 i F2 e2 a2 r2 ⟨a, xs, k, j, eo, ei, hm, hj, p⟩ => by
    subst eo ei
    cases (show ov = .ref a from r1)
    obtain ⟨us, g1, g2⟩ := a2.mem _ hm
    refine ⟨a, us, k, j, rfl, r2.int, g1, by rw [← rvs_len g2]; exact hj, ?_⟩
    obtain ⟨e3, a3⟩ := a2.put (o := .lst (us.set j v)) (mo' := .lst (xs.set j y)) hm ⟨us.set j v, upd_same, rvs_set (r.sub (e1.trans e2)) j g2⟩
    exact q _ _ S _ ((e1.trans e2).trans e3) (rs.sub ((e1.trans e2).trans e3)) a3 p
/-- a, b = a tuple (a list) of data -/
theorem tg_tup {n : Nat} {gs : TGs} {ds : List PyData} {PS : SS → FP → Prop} (hn : ds.length = n) (h : ∀ σ H vs, RS K (C.hid F H) S σ → As C F H → DqAll K (C.hid F H) vs ds → ∀ Q : L2.St → Hp → Prop, (∀ σ' H' S' F', Ev C F H F' H' → RS K (C.hid F' H') S' σ' → As C F' H' → PS S' F' → Q σ' H') → gs vs σ H Q) :
    TGJ C (gTup K n gs) (.d (.tuple ds)) S F PS := fun σ H v rs as r Q q => by
  cases r with
  | tup hl hd => exact ⟨_, _, rfl, sqt_sub hid_sub hl, (dps_len hd).trans hn, h σ H _ rs as hd Q q⟩
theorem tg_tup2 {i j : Nat} {d1 d2 : PyData} {PS : SS → FP → Prop} (h : PS ((S.set i (some (.d d1))).set j (some (.d d2))) F) : TGJ C (gTup K 2 (gCons (gName i) (gCons (gName j) gNil))) (.d (.tuple [d1, d2])) S F PS :=
  tg_tup rfl fun σ H vs rs as hd Q q => by
    cases hd with
    | cons h1 t => cases t with
      | cons h2 t =>
        cases t
        exact ⟨_, _, rfl, _, _, rfl, rfl, q _ H _ F (Sub.refl _) (RS.set (x := .d d2) h2 j (RS.set (x := .d d1) h1 i rs)) as h⟩
theorem tg_tup3 {i j k : Nat} {d1 d2 d3 : PyData} {PS : SS → FP → Prop} (h : PS (((S.set i (some (.d d1))).set j (some (.d d2))).set k (some (.d d3))) F) : TGJ C (gTup K 3 (gCons (gName i) (gCons (gName j) (gCons (gName k) gNil)))) (.d (.tuple [d1, d2, d3])) S F PS :=
  tg_tup rfl fun σ H vs rs as hd Q q => by
    cases hd with
    | cons h1 t => cases t with
      | cons h2 t => cases t with
        | cons h3 t =>
          cases t
          exact ⟨_, _, rfl, _, _, rfl, _, _, rfl, rfl, q _ H _ F (Sub.refl _) (RS.set (x := .d d3) h3 k (RS.set (x := .d d2) h2 j (RS.set (x := .d d1) h1 i rs))) as h⟩

/-! ### freezing at a statement -/
/-- an owned list of data is frozen: its names told as data -/
def frzS (a : Addr) (d : PyData) : SV → SV
  | .m b => if b = a then .d d else .m b
  | x => x
theorem st_freeze {a : Addr} {ds : List PyData} (hm : (a, MO.lst (ds.map .d)) ∈ F) (h : ST C t (S.map fun o => o.map (frzS a (.list ds))) (F.filter fun q => decide (q.1 ≠ a)) E) : ST C t S F E := fun σ H rs as D cv => by
  obtain ⟨e1, a1, r1⟩ := as.frz' (x := .m a) (F1 := F.filter fun q => decide (q.1 ≠ a)) (.m hm) (show RV K _ (.m a) (.ref a) from rfl)
  refine h σ H ?_ a1 D (cv.ev e1)
  have rs1 := rs.sub e1
  clear rs h
  induction rs1 with
  | nil => exact .nil
  | @cons s o S σ r t ih =>
    refine .cons (fun x e => ?_) ih
    cases s with
    | none => cases e
    | some s =>
      obtain ⟨v, ev, rv⟩ := r s rfl
      refine ⟨v, ev, ?_⟩
      cases e
      cases s with
      | m b =>
        show RV K _ (if b = a then .d (.list ds) else .m b) v
        split
        · rename_i hb
          subst hb
          cases (show v = .ref b from rv)
          exact r1
        · exact rv
      | d _ => exact rv
      | o _ _ => exact rv
      | v _ => exact rv
      | p _ => exact rv
/-- forgetting names -/
theorem st_forget {S' : SS} (f : ∀ (i : Nat) (x : SV), S'[i]? = some (some x) → S[i]? = some (some x)) (l : S'.length = S.length) (h : ST C t S' F E) : ST C t S F E := fun σ H rs as D cv => h σ H (rs.forget f l) as D cv

/-! ### comprehensions -/
def wipeS (S : SS) : List Nat → SS
  | [] => S
  | v :: vs => (wipeS S vs).set v none
theorem rs_wipe {H : Hp} {σ : L2.St} (rs : RS K H S σ) : ∀ vs, RS K H (wipeS S vs) (wipe σ vs)
  | [] => rs
  | v :: vs => (rs_wipe rs vs).setN v
theorem wipe_get (σ : L2.St) (k : Nat) : ∀ vs : List Nat, (wipe σ vs)[k]? = if k ∈ vs then σ[k]?.map (fun _ => none) else σ[k]?
  | [] => by
    rw [if_neg (by simp)]
    rfl
  | v :: vs => by
    unfold wipe
    by_cases h : v = k
    · subst h
      rw [if_pos (by simp)]
      by_cases h2 : v < σ.length
      · rw [List.getElem?_set_self (by rw [wipe_length]; exact h2), List.getElem?_eq_getElem h2]
        rfl
      · rw [List.getElem?_eq_none (by rw [List.length_set, wipe_length]; omega), List.getElem?_eq_none (by omega)]
        rfl
    · rw [List.getElem?_set_ne h, wipe_get σ k vs]
      by_cases h2 : k ∈ vs
      · rw [if_pos h2, if_pos (List.mem_cons_of_mem _ h2)]
      · rw [if_neg h2, if_neg (by simp only [List.mem_cons, not_or]; exact ⟨fun e => h e.symm, h2⟩)]
theorem wipe_idem {σ σ2 : L2.St} {vs : List Nat} (h : ∀ k : Nat, k ∉ vs → σ2[k]? = σ[k]?) (hl : σ2.length = σ.length) : wipe σ2 vs = wipe σ vs := by
  apply List.ext_getElem?
  intro k
  rw [wipe_get, wipe_get]
  by_cases hk : k ∈ vs
  · rw [if_pos hk, if_pos hk]
    by_cases h2 : k < σ.length
    · rw [List.getElem?_eq_getElem h2, List.getElem?_eq_getElem (by omega)]
      rfl
    · rw [List.getElem?_eq_none (by omega), List.getElem?_eq_none (by omega)]
  · rw [if_neg hk, if_neg hk]
    exact h k hk
/-- the target stores in the block's own slots alone -/
def WipeOk (g : TG) (vs : List Nat) : Prop := ∀ v σ H Q, g v (wipe σ vs) H Q → g v (wipe σ vs) H fun σ2 H2 => wipe σ2 vs = wipe σ vs ∧ Q σ2 H2
theorem wipe_of {σ σ2 : L2.St} {vs : List Nat} (h : ∀ k : Nat, k ∉ vs → σ2[k]? = (wipe σ vs)[k]?) (hl : σ2.length = (wipe σ vs).length) : wipe σ2 vs = wipe σ vs :=
  wipe_idem (fun k hk => by rw [h k hk, wipe_get, if_neg hk]) (by rw [hl, wipe_length])
theorem wok_name {i : Nat} {vs : List Nat} (h : i ∈ vs) : WipeOk (gName i) vs := fun v σ H Q q =>
  ⟨wipe_of (fun k hk => List.getElem?_set_ne fun e => hk (by rw [← e]; exact h)) (by simp), q⟩
theorem wok_tup2 {i j n : Nat} {vs : List Nat} (h : i ∈ vs) (h' : j ∈ vs) : WipeOk (gTup K n (gCons (gName i) (gCons (gName j) gNil))) vs := fun v σ H Q q => by
  obtain ⟨a, xs, e1, e2, e3, v1, r1, e4, v2, r2, e5, e6, q⟩ := q
  refine ⟨a, xs, e1, e2, e3, v1, r1, e4, v2, r2, e5, e6, wipe_of (fun k hk => ?_) (by simp), q⟩
  rw [List.getElem?_set_ne fun e => hk (by rw [← e]; exact h'), List.getElem?_set_ne fun e => hk (by rw [← e]; exact h)]
theorem wok_tup3 {i j l n : Nat} {vs : List Nat} (h : i ∈ vs) (h' : j ∈ vs) (h'' : l ∈ vs) : WipeOk (gTup K n (gCons (gName i) (gCons (gName j) (gCons (gName l) gNil)))) vs := fun v σ H Q q => by
  obtain ⟨a, xs, e1, e2, e3, v1, r1, e4, v2, r2, e5, v3, r3, e6, e7, q⟩ := q
  refine ⟨a, xs, e1, e2, e3, v1, r1, e4, v2, r2, e5, v3, r3, e6, e7, wipe_of (fun k hk => ?_) (by simp), q⟩
  rw [List.getElem?_set_ne fun e => hk (by rw [← e]; exact h''), List.getElem?_set_ne fun e => hk (by rw [← e]; exact h'), List.getElem?_set_ne fun e => hk (by rw [← e]; exact h)]
theorem rvs_app {H : Hp} {y : SV} {v : V} (r : RV K H y v) : ∀ {xs : List SV} {vs : List V}, RVs K H xs vs → RVs K H (xs ++ [y]) (vs ++ [v])
  | _, _, .nil => .cons r .nil
  | _, _, .cons a b => .cons a (rvs_app r b)
theorem setF_head {D : Addr} {o o' : MO} {F : FP} (h : D ∉ F.map (·.1)) : setF ((D, o) :: F) D o' = (D, o') :: F := by
  unfold setF
  rw [List.map_cons, if_pos rfl]
  congr 1
  conv => rhs; rw [← List.map_id F]
  apply List.map_congr_left
  intro q hq
  rw [if_neg fun e => h (List.mem_map.mpr ⟨q, hq, e⟩)]
  rfl
theorem tj_lc {wi : TI} {g : TG} {tt : TT} {te : TE} {vs : List Nat} (hw : WipeOk g vs) (h : IT C wi S F fun ys F1 => ∀ D, D ∉ F1.map (·.1) → ∃ I : Nat → List SV → FP → Prop, I 0 [] F1 ∧
    (∀ i y acc F', ys[i]? = some y → I i acc F' → TGJ C g y (wipeS S vs) ((D, .lst acc) :: F') fun S2 F2 => TB C tt S2 F2 fun b F3 =>
      (b = true → TJ C te S2 F3 fun z F4 => ∃ F5, F4 = (D, .lst acc) :: F5 ∧ acc.length < 16000000 ∧ I (i + 1) (acc ++ [z]) F5) ∧ (b = false → ∃ F5, F3 = (D, .lst acc) :: F5 ∧ I (i + 1) acc F5)) ∧
    ∀ acc F', I ys.length acc F' → P (.m D) ((D, .lst acc) :: F')) : TJ C (tLc wi g tt te vs) S F P := fun σ H rs as Q q => by
  refine h σ H rs as _ fun J H1 F1 ys Gd Yr e1 a1 W hG hY hh => ?_
  intro D hD
  obtain ⟨I, i0, turn, done⟩ := hh D fun z => a1.there z hD
  obtain ⟨e2, a2⟩ := a1.new (o := .lst []) (mo := .lst []) hD fun Hh sb => ⟨[], upd_same, .nil⟩
  refine lc_it W (fun i H' => ∃ acc F', Ev C F1 H1 ((D, .lst acc) :: F') H' ∧ As C ((D, .lst acc) :: F') H' ∧ I i acc F') ⟨[], F1, e2, a2, i0⟩ (fun i H' _ ⟨acc, F', e, a, _⟩ => hG _ H' e a) ?_ ?_
  · rintro i x H' H3 hi ⟨acc, F', e, a, iv⟩ hy
    obtain ⟨e3, a3, y, ey, ry⟩ := hY i H' x H3 _ e a hi hy
    have rsw : RS K (C.hid ((D, .lst acc) :: F') H3) (wipeS S vs) (wipe σ vs) := rs_wipe (rs.sub (e1.trans (e.trans e3))) vs
    refine hw x σ H3 _ (turn i y acc F' ey iv (wipe σ vs) H3 x rsw a3 ry _ fun σ2 H2 S2 F2 e4 rs2 a4 hb => ?_)
    refine hb σ2 H2 rs2 a4 _ fun b H4 F3 e5 a5 h5 => ?_
    cases b with
    | false =>
      obtain ⟨F5, ef, i5⟩ := h5.2 rfl
      subst ef
      exact ⟨acc, F5, ((e.trans e3).trans e4).trans e5, a5, i5⟩
    | true =>
      refine h5.1 rfl σ2 H4 (rs2.sub e5) a5 _ fun z H5 u F4 e6 a6 r6 ⟨F5, ef, hz, i5⟩ => ?_
      subst ef
      obtain ⟨us, g1, g2⟩ := a6.mem _ List.mem_cons_self
      refine ⟨us, g1, Nat.lt_of_lt_of_le (by rw [← rvs_len g2]; exact hz) (by decide), acc ++ [u], F5, ?_⟩
      obtain ⟨e7, a7⟩ := a6.put (o := .lst (us ++ [z])) (mo' := .lst (acc ++ [u])) List.mem_cons_self ⟨us ++ [z], upd_same, rvs_app r6 g2⟩
      have nd : D ∉ F5.map (·.1) := (List.nodup_cons.mp a6.nd).1
      rw [setF_head nd] at e7 a7
      exact ⟨(((e.trans e3).trans e4).trans e5).trans (e6.trans e7), a7, i5⟩
  · rintro H' ⟨acc, F', e, a, iv⟩
    exact q _ H' (.m D) _ (e1.trans e) a rfl (done acc F' iv)
end
end G

namespace G
open PySem L2 RT
section
variable {K : PySem.W.Frag} {T : List Tb} {C : CC K T} {S : SS} {F : FP} {P : SV → FP → Prop} {PB : Bool → FP → Prop} {PL : List SV → FP → Prop} {te ta tb : TE} {tt tu : TT} {tl : TA} {x y z : SV} {r : R2}
/-- an owned list just made is frozen at once -/
theorem tj_frz (h : TJ C te S F fun x F1 => ∃ D ds F2, x = .m D ∧ F1 = (D, .lst (ds.map .d)) :: F2 ∧ P (.d (.list ds)) F2) : TJ C te S F P := fun σ H rs as Q q =>
  h σ H rs as _ fun v H1 x F1 e1 a1 r1 ⟨D, ds, F2, ex, ef, p⟩ => by
    subst ex ef
    obtain ⟨e2, a2, r2⟩ := a1.frz' (x := .m D) (.m List.mem_cons_self) r1
    have ne : ∀ q ∈ F2, q.1 ≠ D := fun q hq e => (List.nodup_cons.mp a1.nd).1 (by rw [← e]; exact List.mem_map.mpr ⟨q, hq, rfl⟩)
    have ef : ((D, MO.lst (ds.map .d)) :: F2).filter (fun q => decide (q.1 ≠ D)) = F2 := by
      rw [List.filter_cons, if_neg (by simp)]
      exact List.filter_eq_self.mpr fun q hq => decide_eq_true (ne q hq)
    rw [ef] at e2 a2 r2
    exact q v H1 _ F2 (e1.trans e2) a2 r2 p
/-- a comprehension whose parts leave the heap as it is: the new list, owned -/
theorem tj_lcO {wi : TI} {g : TG} {tt : TT} {te : TE} {vs : List Nat} (hw : WipeOk g vs) (h : IT C wi S F fun ys F1 => ∃ (α : Type) (l : List α) (enc : α → SV) (bb : α → Bool) (f : α → SV), ys = l.map enc ∧ l.length < 16000000 ∧
    (∀ D acc a, a ∈ l → D ∉ F1.map (·.1) → TGJ C g (enc a) (wipeS S vs) ((D, .lst acc) :: F1) fun S2 F2 => TB C tt S2 F2 fun b F3 => F3 = (D, .lst acc) :: F1 ∧ b = bb a ∧ (bb a = true → TJ C te S2 F3 fun z F4 => F4 = (D, .lst acc) :: F1 ∧ z = f a)) ∧
    ∀ D, D ∉ F1.map (·.1) → P (.m D) ((D, .lst ((l.filter bb).map f)) :: F1)) : TJ C (tLc wi g tt te vs) S F P := by
  refine tj_lc hw fun σ H rs as R q => h σ H rs as R fun J H1 F1 ys Gd Yr e1 a1 W hG hY ⟨α, l, enc, bb, f, el, hz, turn, k⟩ => q J H1 F1 ys Gd Yr e1 a1 W hG hY fun D hD => ?_
  subst el
  refine ⟨fun i acc F' => F' = F1 ∧ acc = ((l.take i).filter bb).map f ∧ acc.length ≤ i, ⟨rfl, by simp, by simp⟩, ?_, ?_⟩
  · rintro i y acc F' hi ⟨rfl, ea, hl⟩
    rw [List.getElem?_map] at hi
    obtain ⟨a, ha, rfl⟩ := Option.map_eq_some_iff.mp hi
    have hil : i < l.length := (List.getElem?_eq_some_iff.mp ha).1
    have tk : l.take (i + 1) = l.take i ++ [a] := by
      rw [List.take_succ, ha]
      rfl
    intro σ2 H2 v rs2 as2 rv Q2 q2
    refine turn D acc a (List.mem_of_getElem? ha) hD σ2 H2 v rs2 as2 rv Q2 fun σ3 H3 S3 F3 e3 rs3 a3 hb => q2 σ3 H3 S3 F3 e3 rs3 a3 ?_
    intro σ4 H4 rs4 as4 Q4 q4
    refine hb σ4 H4 rs4 as4 Q4 fun b H5 F5 e5 a5 ⟨ef, eb, ht⟩ => q4 b H5 F5 e5 a5 ⟨fun hb1 => ?_, fun hb1 => ?_⟩
    · subst eb
      intro σ6 H6 rs6 as6 Q6 q6
      refine ht hb1 σ6 H6 rs6 as6 Q6 fun z H7 u F7 e7 a7 r7 ⟨ef7, eu⟩ => q6 z H7 u F7 e7 a7 r7 ⟨F', ef7, by omega, rfl, ?_, ?_⟩
      · rw [tk, List.filter_append, List.filter_cons, if_pos hb1, List.map_append, ea, eu]
        rfl
      · rw [List.length_append, List.length_singleton]
        omega
    · subst eb
      refine ⟨F', ef, rfl, ?_, by omega⟩
      rw [tk, List.filter_append, List.filter_cons, if_neg (by rw [hb1]; exact Bool.false_ne_true), List.map_append, ea]
      simp
  · rintro acc F' ⟨rfl, ea, _⟩
    rw [List.length_map, List.take_length] at ea
    subst ea
    exact k D hD
/-- .. frozen -/
theorem tj_lcD {wi : TI} {g : TG} {tt : TT} {te : TE} {vs : List Nat} (hw : WipeOk g vs) (h : IT C wi S F fun ys F1 => ∃ (α : Type) (l : List α) (enc : α → SV) (bb : α → Bool) (f : α → PyData), ys = l.map enc ∧ l.length < 16000000 ∧
    (∀ D acc a, a ∈ l → D ∉ F1.map (·.1) → TGJ C g (enc a) (wipeS S vs) ((D, .lst acc) :: F1) fun S2 F2 => TB C tt S2 F2 fun b F3 => F3 = (D, .lst acc) :: F1 ∧ b = bb a ∧ (bb a = true → TJ C te S2 F3 fun z F4 => F4 = (D, .lst acc) :: F1 ∧ z = .d (f a))) ∧
    P (.d (.list ((l.filter bb).map f))) F1) : TJ C (tLc wi g tt te vs) S F P := by
  refine tj_frz (tj_lcO hw fun σ H rs as R q => h σ H rs as R fun J H1 F1 ys Gd Yr e1 a1 W hG hY ⟨α, l, enc, bb, f, el, hz, turn, k⟩ => q J H1 F1 ys Gd Yr e1 a1 W hG hY ⟨α, l, enc, bb, fun a => .d (f a), el, hz, turn, fun D hD => ⟨D, (l.filter bb).map f, F1, rfl, ?_, k⟩⟩)
  rw [List.map_map]
  rfl
theorem tb_yes (k : PB true F) : TB C tYes S F PB := fun σ H rs as Q q => q true H F (Sub.refl _) as k

/-! ### slices -/
abbrev TOJ (C : CC K T) (to : TO) (S : SS) (F : FP) (PO : Option Int → FP → Prop) : Prop :=
  ∀ σ H, RS K (C.hid F H) S σ → As C F H → ∀ Q : Option Int → Hp → Prop, (∀ o H' F', Ev C F H F' H' → As C F' H' → PO o F' → Q o H') → to σ H Q
theorem to_none {PO : Option Int → FP → Prop} (k : PO none F) : TOJ C tNoPart S F PO := fun σ H rs as Q q => q none H F (Sub.refl _) as k
theorem to_some {PO : Option Int → FP → Prop} (h : TJ C te S F fun x F1 => ∃ i, x = dI i ∧ PO (some i) F1) : TOJ C (tPart te) S F PO := fun σ H rs as Q q =>
  h σ H rs as _ fun v H1 x F1 e1 a1 r1 ⟨i, ex, p⟩ => by
    subst ex
    exact ⟨i, r1.int, q _ H1 F1 e1 a1 p⟩
/-- the cut of a list -/
def cutD {α : Type} (xs : List α) (lo hi : Option Int) : List α := (xs.drop (HT.sIx xs.length 0 lo)).take (HT.sIx xs.length xs.length hi - HT.sIx xs.length 0 lo)
def rSlB (K : PySem.W.Frag) : V → Option Int → Option Int → Hp → VK → Prop := fun x lo hi H Q => rSlL K x lo hi H Q ∨ rSlA K x lo hi H Q
theorem sl_any {X : Cx} : SlR X (rSlB X.K) := sl_list.or sl_tupA
theorem dps_cut {H : Hp} {xs : List V} {ds : List PyData} (h : DqAll K H xs ds) (lo hi : Option Int) : DqAll K H (cutV xs lo hi) (cutD ds lo hi) := by
  unfold cutV cutD
  rw [dps_len h]
  exact dps_take _ (dps_drop _ h)
theorem tj_sl {tlo thi : TO} (h : TJ C te S F fun x F1 => TOJ C tlo S F1 fun lo F2 => TOJ C thi S F2 fun hi F3 => (∃ ds, x = .d (.list ds) ∧ P (.d (.list (cutD ds lo hi))) F3) ∨ (∃ ds, x = .d (.tuple ds) ∧ P (.d (.tuple (cutD ds lo hi))) F3)) :
    TJ C (tSl (rSlB K) te tlo thi) S F P := fun σ H rs as Q q =>
  h σ H rs as _ fun v H1 x F1 e1 a1 r1 h1 => h1 σ H1 (rs.sub e1) a1 _ fun lo H2 F2 e2 a2 h2 => h2 σ H2 (rs.sub (e1.trans e2)) a2 _ fun hi H3 F3 e3 a3 h3 => by
    have r3 := r1.sub (e2.trans e3)
    have ee := (e1.trans e2).trans e3
    rcases h3 with ⟨ds, ex, p⟩ | ⟨ds, ex, p⟩
    · subst ex
      cases r3 with
      | lst hl hd =>
        refine .inl ⟨_, _, rfl, sql_sub hid_sub hl, fun l hn => ?_⟩
        obtain ⟨e4, a4, r4⟩ := a3.newL hn (dps_cut hd lo hi)
        exact q _ _ _ F3 (ee.trans e4) a4 r4 p
    · subst ex
      cases r3 with
      | tup hl hd =>
        rename_i a xs
        refine .inr ⟨a, xs, rfl, sqt_sub hid_sub hl, fun hw => ?_, fun hw l hn => ?_⟩
        · have : cutV xs lo hi = xs := by
            unfold cutV
            rw [hw.1, hw.2]
            simp
          have hd2 := dps_cut hd lo hi
          rw [this] at hd2
          exact q _ H3 (.d (.tuple (cutD ds lo hi))) F3 ee a3 (.tup hl hd2) p
        · obtain ⟨e4, a4, r4⟩ := a3.newT hn (dps_cut hd lo hi)
          exact q _ _ _ F3 (ee.trans e4) a4 r4 p
/-- a slice of an owned list: a new list, frozen -/
theorem tj_slM {tlo thi : TO} (h : TJ C te S F fun x F1 => TOJ C tlo S F1 fun lo F2 => TOJ C thi S F2 fun hi F3 => ∃ a ds, x = .m a ∧ (a, MO.lst (ds.map .d)) ∈ F3 ∧ P (.d (.list (cutD ds lo hi))) F3) :
    TJ C (tSl (rSlB K) te tlo thi) S F P := fun σ H rs as Q q =>
  h σ H rs as _ fun v H1 x F1 e1 a1 r1 h1 => h1 σ H1 (rs.sub e1) a1 _ fun lo H2 F2 e2 a2 h2 => h2 σ H2 (rs.sub (e1.trans e2)) a2 _ fun hi H3 F3 e3 a3 ⟨a, ds, ex, hm, p⟩ => by
    subst ex
    cases (show v = .ref a from r1)
    obtain ⟨us, g1, g2⟩ := a3.mem _ hm
    refine .inl ⟨_, _, rfl, SqL.of g1, fun l hn => ?_⟩
    obtain ⟨e4, a4, r4⟩ := a3.newL hn (dps_cut (rvs_d g2) lo hi)
    exact q _ _ _ F3 (((e1.trans e2).trans e3).trans e4) a4 r4 p

/-! ### + of lists -/
def rCatL (K : PySem.W.Frag) : R2 := fun x y H Q => ∃ (a b : Addr) (xs ys : List V), x = .ref a ∧ y = .ref b ∧ SqL K H a xs ∧ SqL K H b ys ∧ xs.length + ys.length ≤ sizeLine ∧ ∀ p, H p = none → Q (.ref p) (upd H p (.lst (xs ++ ys)))
theorem op_catL {X : Cx} : OpR X (binaryOp .Add) (rCatL X.K) := by
  intro pins s σ H x y v u Q I rx ry h
  obtain ⟨a, b, xs, ys, rfl, rfl, h1, h2, hz, q⟩ := h
  cases rx
  cases ry
  obtain ⟨its, r, pl, _⟩ := I.list h1
  obtain ⟨its2, r2, pl2, _⟩ := I.list h2
  obtain ⟨⟨cls, dd, data, sl⟩, ho, hc, n, hd⟩ := pl.isList
  obtain ⟨⟨cls2, dd2, data2, sl2⟩, ho2, hc2, n2, hd2⟩ := pl2.isList
  simp only at hc hd hc2 hd2
  subst hc hd hc2 hd2
  have hz2 : its.toArray.size + its2.toArray.size ≤ sizeLine := by
    rw [List.size_toArray, List.size_toArray, ← r.length, ← r2.length]
    exact hz
  refine concat_meets ⟨_, ho, rfl⟩ ⟨_, ho2, rfl⟩ noFill_list_add seq_list_add PySem.F.slot_list_add PySem.F.entry_list_add (PySem.F.args_list_add_2 _ _) (PyProof.Rows.list_addW a b its.toArray its2.toArray n n2 dd dd2 sl sl2 hz2) ⟨ho, ho2, ?_⟩
  rw [show its.toArray ++ its2.toArray = (its ++ its2).toArray by simp]
  exact ⟨.ref _, _, I.lnew (t' := s.toks) (r.append r2) (by rw [List.length_append]; exact hz), rfl, q _ I.fresh⟩
/-! ### + of tuples -/
/-- + of ints, of tuples, of lists -/
def rAddA (K : PySem.W.Frag) : R2 := fun x y H Q => rI0 (fun i j => .int (i + j)) x y H Q ∨ rCatA K x y H Q ∨ rCatL K x y H Q
theorem op_addA {X : Cx} : OpR X (binaryOp .Add) (rAddA X.K) := op_add.or (op_catA.or op_catL)
theorem ro_addI {i j : Int} (k : P (dI (i + j)) F) : RO C (rAddA K) (dI i) (dI j) F P := fun H v w as rv rw Q q => .inl (ro_add k H v w as rv rw Q q)
theorem ro_addT {ds es : List PyData} (hz : ds.length + es.length ≤ 16000000) (k : P (.d (.tuple (ds ++ es))) F) : RO C (rAddA K) (.d (.tuple ds)) (.d (.tuple es)) F P := fun H v w as rv rw' Q q => by
  have rv0 := rv
  have rw0 := rw'
  cases rv with
  | tup hl hd => cases rw' with
    | tup hl2 hd2 =>
      rename_i a xs b ys
      have h1 := dps_len hd
      have h2 := dps_len hd2
      refine .inr (.inl ⟨a, b, xs, ys, rfl, rfl, sqt_sub hid_sub hl, sqt_sub hid_sub hl2, Nat.le_trans (by omega) (show 16000000 ≤ sizeLine by decide), fun e => ?_, fun e1 e2 => ?_, fun e1 e2 l hn => ?_⟩)
      · subst e
        cases hd
        exact q _ H _ F (Sub.refl _) as rw0 k
      · subst e2
        cases hd2
        rw [List.append_nil] at k
        exact q _ H _ F (Sub.refl _) as rv0 k
      · obtain ⟨e4, a4, r4⟩ := as.newT hn (dps_app hd hd2)
        exact q _ _ _ F e4 a4 r4 k
/-- a list of data, told or owned -/
def ListD (F : FP) (x : SV) (ds : List PyData) : Prop := x = .d (.list ds) ∨ ∃ a, x = .m a ∧ (a, MO.lst (ds.map .d)) ∈ F
theorem ListD.sq {H : Hp} {ds : List PyData} {v : V} (as : As C F H) (h : ListD F x ds) (r : RV K (C.hid F H) x v) : ∃ a xs, v = .ref a ∧ SqL K H a xs ∧ DqAll K (C.hid F H) xs ds := by
  rcases h with e | ⟨a, e, hm⟩
  · subst e
    cases r with
    | lst hl hd => exact ⟨_, _, rfl, sql_sub hid_sub hl, hd⟩
  · subst e
    cases (show v = .ref a from r)
    obtain ⟨us, h1, h2⟩ := as.mem _ hm
    exact ⟨a, us, rfl, SqL.of h1, rvs_d h2⟩
theorem ro_addLO {ds es : List PyData} (hx : ListD F x ds) (hy : ListD F y es) (hz : ds.length + es.length ≤ 16000000) (k : ∀ p, p ∉ F.map (·.1) → P (.m p) ((p, .lst ((ds ++ es).map .d)) :: F)) : RO C (rAddA K) x y F P := fun H v w as rv rw' Q q => by
  obtain ⟨a, us, rfl, g1, d1⟩ := hx.sq as rv
  obtain ⟨b, ws, rfl, g3, d2⟩ := hy.sq as rw'
  have h1 := dps_len d1
  have h2 := dps_len d2
  refine .inr (.inr ⟨a, b, us, ws, rfl, rfl, g1, g3, Nat.le_trans (by omega) (show 16000000 ≤ sizeLine by decide), fun l hn => ?_⟩)
  obtain ⟨e4, a4⟩ := as.new (o := .lst (us ++ ws)) (mo := .lst ((ds ++ es).map .d)) hn fun Hh sb => ⟨_, upd_same, d_rvs (dps_sub sb (dps_app d1 d2))⟩
  exact q _ _ (.m l) _ e4 a4 rfl (k l fun hF => as.there hF hn)
theorem ro_addL {ds es : List PyData} (hx : ListD F x ds) (hy : ListD F y es) (hz : ds.length + es.length ≤ 16000000) (k : P (.d (.list (ds ++ es))) F) : RO C (rAddA K) x y F P := fun H v w as rv rw' Q q => by
  obtain ⟨a, us, rfl, g1, d1⟩ := hx.sq as rv
  obtain ⟨b, ws, rfl, g3, d2⟩ := hy.sq as rw'
  have h1 := dps_len d1
  have h2 := dps_len d2
  refine .inr (.inr ⟨a, b, us, ws, rfl, rfl, g1, g3, Nat.le_trans (by omega) (show 16000000 ≤ sizeLine by decide), fun l hn => ?_⟩)
  obtain ⟨e4, a4, r4⟩ := as.newL hn (dps_app d1 d2)
  exact q _ _ _ F e4 a4 r4 k

/-! ### isinstance -/
/-- the type of data -/
def tyD : PyData → String
  | .none => "NoneType" | .bool _ => "bool" | .int _ => "int" | .str _ => "str" | .list _ => "list" | .tuple _ => "tuple" | .dict _ => "dict"
theorem tyx_d {H : Hp} {d : PyData} {v : V} (h : Dq K H v d) (hx : ∀ a o its n, K.lookup a = some o → o.cls = .type "list" → o.data = .seq its n → True) : TyX K H v (.type (tyD d)) ∨ ∃ a o, v = .ref a ∧ H a = some o := by
  cases h with
  | non => exact .inl (.base .non)
  | bl b => exact .inl (.base (.bl b))
  | int i => exact .inl (.base (.int i))
  | str x => exact .inl (.base (.str x))
  | lst hl hd =>
    rcases hl with (h | ⟨o, h⟩) | ⟨o, its, n, hk, hc, _⟩
    · exact .inl (.base (.lst h))
    · exact .inl (.base (.frz h))
    · exact .inl (.kList hk hc)
  | tup hl hd =>
    rcases hl with (h | ⟨o, h⟩) | ⟨o, its, n, hk, hc, _⟩
    · exact .inl (.base (.tup h))
    · exact .inl (.fTuple h)
    · exact .inl (.kTuple hk hc)
  | dic h => exact .inl (.base (.dK h))
theorem rc_isi {d : PyData} {n : String} {b : Bool} (hb : kitB (tyD d) n = some b) (k : P (dB b) F) : RC C (rIsi K) [.d d, .v (.ty n)] F P := fun H vs as r Q q => by
  obtain ⟨v, w, rfl, rv, rw'⟩ := rvs2 r
  have ew : w = .ty n := rw'
  subst ew
  have ty : TyX K H v (.type (tyD d)) := by
    have h : Dq K H v d := dp_sub hid_sub rv
    rcases tyx_d h (fun _ _ _ _ _ _ _ => trivial) with z | ⟨a, o, rfl, ho⟩
    · exact z
    · cases h with
      | lst hl hd =>
        rcases hl with (h | ⟨o, h⟩) | ⟨o, its, n, hk, hc, _⟩
        · exact .base (.lst h)
        · exact .base (.frz h)
        · exact .kList hk hc
      | tup hl hd =>
        rcases hl with (h | ⟨o, h⟩) | ⟨o, its, n, hk, hc, _⟩
        · exact .base (.tup h)
        · exact .fTuple h
        · exact .kTuple hk hc
      | dic h => exact .base (.dK h)
  exact ⟨v, .ty n, _, _, b, rfl, .ty n, ty, kit_ty hb, q _ H (dB b) F (Sub.refl _) as (rvB b) k⟩

/-! ### is None -/
def isN : PyData → Bool
  | .none => true
  | _ => false
theorem ro_isN {d : PyData} (k : P (dB (isN d)) F) : RO C (fun x y H Q => y = V.non ∧ Q (.bl (decide (x = V.non))) H) (.d d) dN F P := fun H v w as rv rw' Q q => by
  refine ⟨rw'.non, ?_⟩
  have : decide (v = V.non) = isN d := by cases rv <;> rfl
  rw [this]
  exact q _ H (dB _) F (Sub.refl _) as (rvB _) k
theorem ro_notN {d : PyData} (k : P (dB (!isN d)) F) : RO C (fun x y H Q => y = V.non ∧ Q (.bl (!decide (x = V.non))) H) (.d d) dN F P := fun H v w as rv rw' Q q => by
  refine ⟨rw'.non, ?_⟩
  have : (!decide (v = V.non)) = !isN d := by cases rv <;> rfl
  rw [this]
  exact q _ H (dB _) F (Sub.refl _) as (rvB _) k

/-! ### contracts -/
/-- a contract: what the arguments must be, what the value is; new objects may come along -/
structure Ct where
  n : Nat
  pre : List SV → Prop
  post : List SV → SV → FP → Prop
noncomputable def Ct.sp (K : PySem.W.Frag) (T : List Tb) (c : Ct) : Sp := fun vs H Q _ => vs.length = c.n ∧ ∃ (xs : List SV) (U : Addr → Prop), (∀ a, U a → a ∉ keysT T ∧ Hd H a) ∧ (∀ P ∈ T, TabQ H P) ∧ RVs K (hid U T [] H) xs vs ∧ c.pre xs ∧
  ∀ y F' v H', c.post xs y F' → (∀ a o, a ∉ keysT T → H a = some o → H' a = some o) → (∀ P ∈ T, TabQ H' P) → (F'.map (·.1)).Nodup → (∀ a, a ∈ F'.map (·.1) → H a = none ∧ a ∉ keysT T) →
    (∀ p ∈ F', RM K (hid U T F' H') H' p.1 p.2) → RV K (hid U T F' H') y v → Q v H'
theorem rs_start {H : Hp} {xs : List SV} {vs : List V} (h : RVs K H xs vs) (k : Nat) : RS K H (xs.map some ++ List.replicate k none) (vs.map some ++ List.replicate k none) := by
  induction h with
  | nil =>
    simp only [List.map_nil, List.nil_append]
    induction k with
    | zero => exact .nil
    | succ k ih => exact .cons (fun x e => by cases e) ih
  | cons a t ih => exact .cons (fun x e => by cases e; exact ⟨_, rfl, a⟩) ih
theorem As.sublist {H : Hp} {F1 : FP} (a : As C F H) (s : F1.Sublist F) : Ev C F H F1 H ∧ As C F1 H := by
  have sk : (F1.map (·.1)).Sublist (F.map (·.1)) := s.map _
  have ev : Ev C F H F1 H := fun p o h => by
    obtain ⟨⟨h1, h2, h3⟩, h4⟩ := hid_some.mp h
    exact hid_some.mpr ⟨⟨h1, h2, fun z => h3 (sk.subset z)⟩, h4⟩
  exact ⟨ev, a.ex, a.tab, a.nd.sublist sk, fun b h => a.own b (sk.subset h), fun q hq => (a.mem q (s.subset hq)).sub ev rfl⟩
/-- as it is, or frozen -/
inductive Fz : FP → SV → FP → SV → Prop
  | id {F : FP} {y : SV} : Fz F y F y
  | fr {F F' : FP} {y : SV} {d : PyData} : Frz F y F' d → Fz F y F' (.d d)
/-- the wanted ends of a def -/
def Ct.ends (c : Ct) (xs : List SV) : SE := ⟨fun _ F => ∃ G : FP, G.Sublist F ∧ c.post xs dN G, fun y F => ∃ y' F' G, Fz F y F' y' ∧ List.Sublist G F' ∧ c.post xs y' G, fun _ _ => False, fun _ _ => False⟩
/-- a body keeps its contract -/
theorem ct_body {c : Ct} {t : TS} {N : List Str} (h : ∀ (C : CC K T) xs, xs.length = c.n → c.pre xs → ST C t (xs.map some ++ List.replicate (N.length - xs.length) none) [] (c.ends xs))
    {vs : List V} {H : Hp} {Q : VK} {Ex : XK} (hs : c.sp K T vs H Q Ex) : t { nx := fun _ H' => Q .non H', rt := Q } (L2.start N vs) H := by
  obtain ⟨hn, xs, U, hU, hT, rv, hp, q⟩ := hs
  have hl := rvs_len rv
  have as0 : As (K := K) (T := T) ⟨U, fun _ => False, H, fun a h => ⟨fun z => z, hU a h⟩⟩ [] H := ⟨fun a o _ _ e => e, hT, List.Pairwise.nil, fun a h => absurd h (by simp), fun p h => absurd h (by simp)⟩
  have key := h ⟨U, fun _ => False, H, fun a h => ⟨fun z => z, hU a h⟩⟩ xs (by omega) hp (L2.start N vs) H (by
    unfold L2.start
    rw [← hl]
    exact rs_start rv _) as0
  have fin : ∀ (y : SV) (v : V) (F' : FP) (H' : Hp), As (K := K) (T := T) ⟨U, fun _ => False, H, fun a h => ⟨fun z => z, hU a h⟩⟩ F' H' → RV K (hid U T F' H') y v → (∃ G : FP, G.Sublist F' ∧ c.post xs y G) → Q v H' := fun y v F' H' a r ⟨G, sg, p⟩ => by
    obtain ⟨ev, a2⟩ := a.sublist sg
    exact q y G v H' p (fun a' o h1 h2 => a2.ex a' o (fun z => z) h1 h2) a2.tab a2.nd (fun b hb => let ⟨h1, h2⟩ := a2.own b hb; ⟨h2.elim (fun z => z.elim) id, h1⟩) a2.mem (r.sub ev)
  exact key _ ⟨fun σ' H' S' F' e rs a p => fin dN .non F' H' a rvN p, fun v H' x F' e a r ⟨y', F2, G, z, p⟩ => by
    cases z with
    | id => exact fin x v F' H' a r ⟨G, p⟩
    | fr z =>
      obtain ⟨_, a2, r2⟩ := a.frz' z r
      exact fin _ v F2 H' a2 r2 ⟨G, p⟩, fun _ _ _ _ _ _ _ z => z.elim, fun _ _ _ _ _ _ _ z => z.elim⟩
theorem hid_or {U : Addr → Prop} {F : FP} {H : Hp} : hid (fun a => U a ∨ a ∈ F.map (·.1)) T [] H = hid U T F H := by
  funext a
  have e : ((U a ∨ a ∈ F.map (·.1)) ∨ a ∈ keysT T ∨ a ∈ ([] : FP).map (·.1)) = (U a ∨ a ∈ keysT T ∨ a ∈ F.map (·.1)) := by
    apply propext
    constructor
    · rintro ((h | h) | h | h)
      · exact .inl h
      · exact .inr (.inr h)
      · exact .inr (.inl h)
      · simp at h
    · rintro (h | h | h)
      · exact .inl (.inl h)
      · exact .inr (.inl h)
      · exact .inl (.inr h)
  unfold hid
  by_cases h1 : (U a ∨ a ∈ F.map (·.1)) ∨ a ∈ keysT T ∨ a ∈ ([] : FP).map (·.1)
  · rw [if_pos h1, if_pos (by rw [← e]; exact h1)]
  · rw [if_neg h1, if_neg (by rw [← e]; exact h1)]
theorem hid_or2 {U : Addr → Prop} {F F' : FP} {H : Hp} : hid (fun a => U a ∨ a ∈ F.map (·.1)) T F' H = hid U T (F' ++ F) H := by
  funext a
  have e : ((U a ∨ a ∈ F.map (·.1)) ∨ a ∈ keysT T ∨ a ∈ F'.map (·.1)) = (U a ∨ a ∈ keysT T ∨ a ∈ (F' ++ F).map (·.1)) := by
    apply propext
    rw [List.map_append, List.mem_append]
    constructor
    · rintro ((h | h) | h | h)
      · exact .inl h
      · exact .inr (.inr (.inr h))
      · exact .inr (.inl h)
      · exact .inr (.inr (.inl h))
    · rintro (h | h | h | h)
      · exact .inl (.inl h)
      · exact .inr (.inl h)
      · exact .inr (.inr h)
      · exact .inl (.inr h)
  unfold hid
  by_cases h1 : (U a ∨ a ∈ F.map (·.1)) ∨ a ∈ keysT T ∨ a ∈ F'.map (·.1)
  · rw [if_pos h1, if_pos (by rw [← e]; exact h1)]
  · rw [if_neg h1, if_neg (by rw [← e]; exact h1)]
/-- a call by its contract -/
theorem cl_ct {c : Ct} {xs : List SV} (hn : xs.length = c.n) (hp : c.pre xs) (k : ∀ y F', c.post xs y F' → (∀ a, a ∈ F'.map (·.1) → a ∉ F.map (·.1)) → P y (F' ++ F)) : CL C (c.sp K T) xs F P := fun E H vs as r Q q => by
  refine ⟨by rw [← rvs_len r]; exact hn, xs, fun a => C.U a ∨ a ∈ F.map (·.1), fun a ha => ?_, as.tab, by rw [hid_or]; exact r, hp, fun y F' v H' po ex tb nd fr mem rv => ?_⟩
  · rcases ha with h | h
    · exact ⟨(C.hU a h).2.1, as.uH h⟩
    · exact ⟨(as.own a h).1, as.thereH h⟩
  · rw [hid_or2] at rv
    have dj : ∀ a, a ∈ F'.map (·.1) → a ∉ F.map (·.1) := fun a h1 h2 => as.there h2 (fr a h1).1
    have ev : Ev C F H (F' ++ F) H' := fun a o h => by
      obtain ⟨⟨h1, h2, h3⟩, h4⟩ := hid_some.mp h
      refine hid_some.mpr ⟨⟨h1, h2, fun z => ?_⟩, ex a o h2 h4⟩
      rw [List.map_append, List.mem_append] at z
      rcases z with z | z
      · rw [(fr a z).1] at h4; cases h4
      · exact h3 z
    refine q v H' y (F' ++ F) ev ⟨fun a o h1 h2 h3 => ex a o h2 (as.ex a o h1 h2 h3), tb, ?_, fun a h => ?_, fun p hp => ?_⟩ rv (k y F' po dj)
    · rw [List.map_append, List.nodup_append]
      exact ⟨nd, as.nd, fun a h1 b h2 e => dj a h1 (by rw [e]; exact h2)⟩
    · rw [List.map_append, List.mem_append] at h
      rcases h with h | h
      · refine ⟨(fr a h).2, ?_⟩
        by_cases hB : C.B a
        · exact .inl hB
        · cases e : C.H0 a with
          | none => exact .inr rfl
          | some o =>
            have := as.ex a o hB (fr a h).2 e
            rw [(fr a h).1] at this
            cases this
      · exact as.own a h
    · rcases List.mem_append.mp hp with h | h
      · have := mem p h
        rw [hid_or2] at this
        exact this
      · refine (as.mem p h).sub ev ?_
        have hF : p.1 ∈ F.map (·.1) := List.mem_map.mpr ⟨p, h, rfl⟩
        cases e : H p.1 with
        | none => exact absurd e (as.there hF)
        | some o => exact ex _ _ (as.own _ hF).1 e
end
section
open PySem.Spec PyProof.Rows
variable {P : Program} {w : World} {K : PySem.W.Frag} {mg : Str → Option Value} {base : Heap}
/-- THE RULE for a def by its contract -/
theorem ok_ct {x qual : Str} {st : Stmt} {f : Addr} {fd : FuncData} {N ps : List Str} {k : Nat} {T : List Tb} (c : Ct) (F : Fun K x qual st f fd) (S : FnScope N ps (defScope st)) (hn : c.n = ps.length)
    (h : ∀ (cdv : Value) (A : Around) (outer : List Env) (s : Shared) (H : Hp) (E : XK), Room k (A.deeper (envOfC qual (defScope st) s.heap.objs.size f cdv)) →
      ∃ t, PSs (cxOf CX0 P w K mg base N qual (defScope st) f cdv A outer s H E).nox (defBody st) t ∧
        ∀ (C : CC K T) xs, xs.length = c.n → c.pre xs → ST C t (xs.map some ++ List.replicate (N.length - xs.length) none) [] (c.ends xs)) :
    FnOk P w K mg base CX0 (k + 1) f fd ps (c.sp K T) :=
  F.ok S (fun vs H Q E hs => hs.1.trans hn) fun cdv A outer s H vs Q E hr hs =>
    let ⟨t, h1, h2⟩ := h cdv A outer s H E hr
    ⟨t, h1, ct_body h2 hs⟩
end
end G

namespace G
open PySem L2 RT PySem.Spec PyProof.Rows
/-! ### defs by name -/
/-- the module's name x is a def that keeps sp -/
def DefOk (P : Program) (w : World) (K : PySem.W.Frag) (mg : Str → Option Value) (base : Heap) (k : Nat) (x : Str) (ps : List Str) (sp : Sp) : Prop :=
  ∃ (f : Addr) (fd : FuncData), FnOk P w K mg base CX0 k f fd ps sp ∧ mg x = some (.ref f) ∧ PySem.W.keepIn K (.ref f) = true ∧ Binds K fd ps []
section
variable {X : Cx} {k : Nat} {x : Str} {ps : List Str} {sp : Sp} {e : Expr} {es : List Expr} {t : TA} {p pos : Pos}
theorem pe_dcall (D : DefOk X.prog X.w X.K X.mg X.base k x ps sp) (hr : Room k X.A) (hg : Gl X x) (ha : PA X (e :: es) t) (hdb : (x == ("__debug__" : Str)) = false := by decide)
    (he : starEach (e :: es) X.env = (false, eval e X.env) :: starEach es X.env := by rfl) (hpl : (backTo pos (starEach es X.env)).any (·.1) = false := by rfl) : PE X (.Call (.Name x p) (e :: es) [] pos) (tCall sp [] E0 t) := by
  obtain ⟨f, fd, F, hm, hk, hb⟩ := D
  exact pe_call F hr hg hm hk hb .nil pass0 ha hdb he hpl
theorem pe_dcall0 (D : DefOk X.prog X.w X.K X.mg X.base k x ps sp) (hr : Room k X.A) (hg : Gl X x) (hdb : (x == ("__debug__" : Str)) = false := by decide) : PE X (.Call (.Name x p) [] [] pos) (tCall sp [] E0 tNil) := by
  obtain ⟨f, fd, F, hm, hk, hb⟩ := D
  exact pe_call0 F hr hg hm hk hb .nil pass0 hdb
/-- what a for walks: a list or a tuple -/
def iSeq (K : PySem.W.Frag) (tl : TE) : TI := fun σ H R => tl σ H fun v H1 => ∃ a, v = .ref a ∧ (((∃ xs, SqL K H1 a xs) ∧ R (Itl K a) H1) ∨ ((∃ xs, SqT K H1 a xs) ∧ R (Itt K a) H1))
theorem pi_seq {tg l : Expr} {tl : TE} (hl : PE X l tl) : PI X tg l (iSeq X.K tl) := by
  constructor
  intro pins s σ H R I h
  refine thn (hl.run pins s σ H _ I h) ?_
  rintro v st ⟨x, Hx, Ix, rx, a, ea, qa⟩
  subst ea
  cases rx
  have nw : ∀ {o : Obj}, Inv X pins σ Hx { st with heap := st.heap.push o } := fun {o} => Ix.kept (t' := st.toks) fun _ _ e => Heap.get?_push_of_some o e
  have fp : ∀ b ∈ [st.heap.objs.size], FpOk X pins Hx b := fun b hb => by
    cases (List.mem_singleton.mp hb)
    exact (Ix.fpOk (Nat.le_refl _) (Ix.hok.fresh (Nat.le_refl _)))
  rcases qa with ⟨⟨xs, hq⟩, q⟩ | ⟨⟨xs, hq⟩, q⟩
  · obtain ⟨its, _, pl, _⟩ := Ix.list hq
    exact wpAny_pyIter_list pl.isList ⟨st.heap.objs.size, [st.heap.objs.size], _, _, Hx, rfl, nw, turn_list a _, ⟨_, Heap.get?_push_size _ rfl, rfl, rfl⟩, fp, q⟩
  · obtain ⟨its, _, pl, _⟩ := Ix.tuple hq
    exact wpAny_pyIter_tuple (show st.heap.IsTuple a its.toArray from pl) ⟨st.heap.objs.size, [st.heap.objs.size], _, _, Hx, rfl, nw, turn_tuple a _, ⟨_, Heap.get?_push_size _ rfl, rfl, rfl⟩, fp, q⟩
end
section
variable {K : PySem.W.Frag} {T : List Tb} {C : CC K T} {S : SS} {F : FP} {PL : List SV → FP → Prop} {te : TE}
theorem it_seqT (h : TJ C te S F fun x F1 => ∃ ds, x = .d (.tuple ds) ∧ PL (ds.map .d) F1) : IT C (iSeq K te) S F PL := fun σ H rs as R q => by
  refine h σ H rs as _ fun v H1 x F1 e1 a1 r1 ⟨ds, ex, p⟩ => ?_
  subst ex
  cases r1 with
  | tup hl hd =>
    rename_i a xs
    refine ⟨a, rfl, .inr ⟨⟨xs, sqt_sub hid_sub hl⟩, ?_⟩⟩
    have hlen : xs.length = (ds.map SV.d).length := by rw [List.length_map]; exact dps_len hd
    refine q (Itt K a) H1 F1 (ds.map .d) (fun H2 => SqT K H2 a xs) (YAt xs) e1 a1 (hlen ▸ walk_tup) (fun F2 H2 e a2 => sqt_sub hid_sub (sqt_sub e hl)) (fun i H2 v H3 F2 e a2 hi hy => ?_) p
    obtain ⟨e3, ev⟩ := hy
    subst e3
    obtain ⟨d, ed, rd⟩ := dps_getV hd ev
    exact ⟨Sub.refl _, a2, .d d, by rw [List.getElem?_map, ed]; rfl, dp_sub e rd⟩
theorem it_seqL (h : TJ C te S F fun x F1 => ∃ ds, x = .d (.list ds) ∧ PL (ds.map .d) F1) : IT C (iSeq K te) S F PL := fun σ H rs as R q => by
  refine h σ H rs as _ fun v H1 x F1 e1 a1 r1 ⟨ds, ex, p⟩ => ?_
  subst ex
  cases r1 with
  | lst hl hd =>
    rename_i a xs
    refine ⟨a, rfl, .inl ⟨⟨xs, sql_sub hid_sub hl⟩, ?_⟩⟩
    have hlen : xs.length = (ds.map SV.d).length := by rw [List.length_map]; exact dps_len hd
    refine q (Itl K a) H1 F1 (ds.map .d) (fun H2 => SqL K H2 a xs) (YAt xs) e1 a1 (hlen ▸ walk_list) (fun F2 H2 e a2 => sql_sub hid_sub (sql_sub e hl)) (fun i H2 v H3 F2 e a2 hi hy => ?_) p
    obtain ⟨e3, ev⟩ := hy
    subst e3
    obtain ⟨d, ed, rd⟩ := dps_getV hd ev
    exact ⟨Sub.refl _, a2, .d d, by rw [List.getElem?_map, ed]; rfl, dp_sub e rd⟩
end

section
variable {K : PySem.W.Frag} {T : List Tb} {C : CC K T} {S : SS} {F : FP} {E : SE} {te : TE} {t : TS} {x : SV} {P : SV → FP → Prop}
theorem ends_of {c : Ct} {xs : List SV} {y : SV} (h : c.post xs y []) : (c.ends xs).rt y F := ⟨_, _, [], .id, List.nil_sublist _, h⟩
theorem ends_fr {c : Ct} {xs : List SV} {a : Addr} {ds : List PyData} (hm : (a, MO.lst (ds.map .d)) ∈ F) (h : c.post xs (.d (.list ds)) []) : (c.ends xs).rt (.m a) F := ⟨_, _, [], .fr (.m hm), List.nil_sublist _, h⟩
theorem ends_nx {c : Ct} {xs : List SV} (h : c.post xs dN []) : (c.ends xs).nx S F := ⟨[], List.nil_sublist _, h⟩
theorem ends_full {c : Ct} {xs : List SV} {y : SV} (h : c.post xs y F) : (c.ends xs).rt y F := ⟨_, _, F, .id, List.Sublist.refl _, h⟩
theorem st_retF (h : TJ C te S F fun x F1 => ∃ d F2, Frz F1 x F2 d ∧ E.rt (.d d) F2) : ST C (tRet te) S F E := fun σ H rs as D cv => h σ H rs as _ fun v H1 x F1 e1 a1 r1 ⟨d, F2, z, p⟩ => by
  obtain ⟨e2, a2, r2⟩ := a1.frz' z r1
  exact cv.rt v H1 (.d d) F2 (e1.trans e2) a2 r2 p
/-- the value is frozen ahead of what follows -/
theorem tj_frzV (h : TJ C te S F fun x F1 => ∃ d F2, Frz F1 x F2 d ∧ P (.d d) F2) : TJ C te S F P := fun σ H rs as Q q => h σ H rs as _ fun v H1 x F1 e1 a1 r1 ⟨d, F2, z, p⟩ => by
  obtain ⟨e2, a2, r2⟩ := a1.frz' z r1
  exact q v H1 (.d d) F2 (e1.trans e2) a2 r2 p

/-! ### contracts about one object that is lent -/
structure CtB where
  n : Nat
  pre : MO → List SV → Prop
  post : MO → List SV → SV → MO → Prop
def CtB.sp (K : PySem.W.Frag) (T : List Tb) (c : CtB) : Sp := fun vs H Q _ => vs.length = c.n ∧ ∃ (p : Addr) (ws : List V) (xs : List SV) (U : Addr → Prop) (mo : MO), vs = .ref p :: ws ∧ (∀ a, U a → a ≠ p ∧ a ∉ keysT T ∧ Hd H a) ∧ p ∉ keysT T ∧ (∀ P ∈ T, TabQ H P) ∧
  RVs K (hid U T [(p, mo)] H) xs ws ∧ RM K (hid U T [(p, mo)] H) H p mo ∧ c.pre mo xs ∧
  ∀ y mo' v H', c.post mo xs y mo' → (∀ a o, a ∉ keysT T → a ≠ p → H a = some o → H' a = some o) → (∀ P ∈ T, TabQ H' P) → RM K (hid U T [(p, mo')] H') H' p mo' → RV K (hid U T [(p, mo')] H') y v → Q v H'
def CtB.ends (c : CtB) (p : Addr) (mo : MO) (xs : List SV) : SE := ⟨fun _ F => ∃ mo', [(p, mo')].Sublist F ∧ c.post mo xs dN mo', fun y F => ∃ mo', [(p, mo')].Sublist F ∧ c.post mo xs y mo', fun _ _ => False, fun _ _ => False⟩
theorem ctb_body {c : CtB} {t : TS} {N : List Str} (h : ∀ (C : CC K T) p mo xs, xs.length + 1 = c.n → c.pre mo xs → ST C t ((SV.m p :: xs).map some ++ List.replicate (N.length - (xs.length + 1)) none) [(p, mo)] (c.ends p mo xs))
    {vs : List V} {H : Hp} {Q : VK} {Ex : XK} (hs : c.sp K T vs H Q Ex) : t { nx := fun _ H' => Q .non H', rt := Q } (L2.start N vs) H := by
  obtain ⟨hn, p, ws, xs, U, mo, rfl, hU, hpT, hT, rv, rm, hp, q⟩ := hs
  have hl := rvs_len rv
  have as0 : As (K := K) (T := T) ⟨U, fun a => a = p, H, fun a h => hU a h⟩ [(p, mo)] H := ⟨fun a o _ _ e => e, hT, by simp, fun a h => by
    have e : a = p := by simpa using h
    exact ⟨by rw [e]; exact hpT, .inl e⟩, fun z h => by
    have e : z = (p, mo) := by simpa using h
    subst e
    exact rm⟩
  have key := h ⟨U, fun a => a = p, H, fun a h => hU a h⟩ p mo xs (by simp only [List.length_cons] at hn; omega) hp (L2.start N (.ref p :: ws)) H (by
    unfold L2.start
    have := rs_start (xs := SV.m p :: xs) (vs := V.ref p :: ws) (H := hid U T [(p, mo)] H) (K := K) (.cons rfl rv) (N.length - (xs.length + 1))
    rw [List.length_cons, ← hl]
    exact this) as0
  have fin : ∀ (y : SV) (v : V) (F' : FP) (H' : Hp), As (K := K) (T := T) ⟨U, fun a => a = p, H, fun a h => hU a h⟩ F' H' → RV K (hid U T F' H') y v → (∃ mo', [(p, mo')].Sublist F' ∧ c.post mo xs y mo') → Q v H' := fun y v F' H' a r ⟨mo', sg, po⟩ => by
    obtain ⟨ev, a2⟩ := a.sublist sg
    exact q y mo' v H' po (fun a' o h1 h2 => a2.ex a' o h2 h1) a2.tab (a2.mem (p, mo') (by simp)) (r.sub ev)
  exact key _ ⟨fun σ' H' S' F' e rs a p => fin dN .non F' H' a rvN p, fun v H' x F' e a r p => fin x v F' H' a r p, fun _ _ _ _ _ _ _ z => z.elim, fun _ _ _ _ _ _ _ z => z.elim⟩
theorem filter_mem {F : FP} {p : Addr} {q : Addr × MO} (h : q ∈ F) (hn : q.1 ≠ p) : q.1 ∈ (F.filter fun q => decide (q.1 ≠ p)).map (·.1) := List.mem_map.mpr ⟨q, List.mem_filter.mpr ⟨h, decide_eq_true hn⟩, rfl⟩
theorem cl_ctb {c : CtB} {p : Addr} {mo : MO} {xs : List SV} (hn : xs.length + 1 = c.n) (hm : (p, mo) ∈ F) (hp : c.pre mo xs) (k : ∀ y mo', c.post mo xs y mo' → P y (setF F p mo')) : CL C (c.sp K T) (.m p :: xs) F P := fun E H vs as r Q q => by
  cases r with
  | cons r1 r2 =>
    rename_i v ws
    cases (show v = .ref p from r1)
    have hpF : p ∈ F.map (·.1) := List.mem_map.mpr ⟨_, hm, rfl⟩
    have eqH : ∀ (mo2 : MO) (H2 : Hp), hid (fun a => C.U a ∨ (a ∈ F.map (·.1) ∧ a ≠ p)) T [(p, mo2)] H2 = hid C.U T F H2 := fun mo2 H2 => by
      funext a
      have e : ((C.U a ∨ (a ∈ F.map (·.1) ∧ a ≠ p)) ∨ a ∈ keysT T ∨ a ∈ ([(p, mo2)] : FP).map (·.1)) ↔ (C.U a ∨ a ∈ keysT T ∨ a ∈ F.map (·.1)) := by
        constructor
        · rintro ((h | h) | h | h)
          · exact .inl h
          · exact .inr (.inr h.1)
          · exact .inr (.inl h)
          · have e : a = p := by simpa using h
            exact .inr (.inr (by rw [e]; exact hpF))
        · rintro (h | h | h)
          · exact .inl (.inl h)
          · exact .inr (.inl h)
          · by_cases e : a = p
            · exact .inr (.inr (by rw [e]; simp))
            · exact .inl (.inr ⟨h, e⟩)
      unfold hid
      by_cases h1 : C.U a ∨ a ∈ keysT T ∨ a ∈ F.map (·.1)
      · rw [if_pos h1, if_pos (e.mpr h1)]
      · rw [if_neg h1, if_neg fun z => h1 (e.mp z)]
    refine ⟨by rw [List.length_cons, ← rvs_len r2]; exact hn, p, ws, xs, fun a => C.U a ∨ (a ∈ F.map (·.1) ∧ a ≠ p), mo, rfl, fun a ha => ?_, (as.own p hpF).1, as.tab, by rw [eqH]; exact r2, by rw [eqH]; exact as.mem _ hm, hp, fun y mo' v H' po ex tb rm rv => ?_⟩
    · rcases ha with h | ⟨h, hne⟩
      · refine ⟨fun e => ?_, (C.hU a h).2.1, as.uH h⟩
        rw [e] at h
        exact as.notU hpF h
      · exact ⟨hne, (as.own a h).1, as.thereH h⟩
    · rw [eqH] at rm rv
      have ev : Ev C F H (setF F p mo') H' := fun a o h => by
        obtain ⟨⟨h1, h2, h3⟩, h4⟩ := hid_some.mp h
        exact hid_some.mpr ⟨⟨h1, h2, by rw [setF_keys]; exact h3⟩, ex a o h2 (fun e => h3 (by rw [e]; exact hpF)) h4⟩
      have eh : C.hid (setF F p mo') H' = hid C.U T F H' := by
        funext a
        unfold CC.hid hid
        rw [setF_keys]
      refine q v H' y _ ev ⟨fun a o h1 h2 h3 => ?_, tb, by rw [setF_keys]; exact as.nd, by rw [setF_keys]; exact as.own, fun z hz => ?_⟩ (by rw [eh]; exact rv) (k y mo' po)
      · refine ex a o h2 (fun e => ?_) (as.ex a o h1 h2 h3)
        subst e
        rcases (as.own a hpF).2 with h | h
        · exact h1 h
        · rw [h] at h3; cases h3
      · rw [show hid C.U T (setF F p mo') H' = hid C.U T F H' from eh]
        rcases setF_mem hz with e | ⟨hz, hne⟩
        · subst e
          exact rm
        · have hF : z.1 ∈ F.map (·.1) := List.mem_map.mpr ⟨z, hz, rfl⟩
          refine (as.mem z hz).sub (Hh' := hid C.U T F H') (fun a o h => by rw [← show hid C.U T (setF F p mo') H' = hid C.U T F H' from eh]; exact ev a o h) ?_
          cases e : H z.1 with
          | none => exact absurd e (as.there hF)
          | some o => exact ex _ _ (as.own _ hF).1 hne e
end
section
variable {P : Program} {w : World} {K : PySem.W.Frag} {mg : Str → Option Value} {base : Heap}
theorem ok_ctb {x qual : Str} {st : Stmt} {f : Addr} {fd : FuncData} {N ps : List Str} {k : Nat} {T : List Tb} (c : CtB) (F : Fun K x qual st f fd) (S : FnScope N ps (defScope st)) (hn : c.n = ps.length)
    (h : ∀ (cdv : Value) (A : Around) (outer : List Env) (s : Shared) (H : Hp) (E : XK), Room k (A.deeper (envOfC qual (defScope st) s.heap.objs.size f cdv)) →
      ∃ t, PSs (cxOf CX0 P w K mg base N qual (defScope st) f cdv A outer s H E).nox (defBody st) t ∧
        ∀ (C : CC K T) p mo xs, xs.length + 1 = c.n → c.pre mo xs → ST C t ((SV.m p :: xs).map some ++ List.replicate (N.length - (xs.length + 1)) none) [(p, mo)] (c.ends p mo xs)) :
    FnOk P w K mg base CX0 (k + 1) f fd ps (c.sp K T) :=
  F.ok S (fun vs H Q E hs => hs.1.trans hn) fun cdv A outer s H vs Q E hr hs =>
    let ⟨t, h1, h2⟩ := h cdv A outer s H E hr
    ⟨t, h1, ctb_body h2 hs⟩
/-- from what the top left -/
theorem defok {x qual : Str} {st : Stmt} {f : Addr} {fd : FuncData} {ps : List Str} {k : Nat} {sp : Sp} (F : Fun K x qual st f fd) (G : FnOk P w K mg base CX0 k f fd ps sp) (hm : mg x = some (.ref f)) (hb : Binds K fd ps []) : DefOk P w K mg base k x ps sp := ⟨f, fd, G, hm, F.kp, hb⟩
end

/-! ### the rules, K named -/
section
variable {X : Cx} {K : PySem.W.Frag} (hK : X.K = K)
include hK
theorem k_eqD (hu : X.A.units + 64 < cLine) : OpR X (compareOp .Eq) (rEqD K) := hK ▸ op_eqD hu
theorem k_neD (hu : X.A.units + 64 < cLine) : OpR X (compareOp .NotEq) (rNeD K) := hK ▸ op_neD hu
theorem k_addA : OpR X (binaryOp .Add) (rAddA K) := hK ▸ op_addA
theorem k_ix : IxR X (rIx K) := hK ▸ ix_seq
theorem k_sl : SlR X (rSlB K) := hK ▸ sl_any
theorem k_in : OpR X (compareOp .In) (rIn K false) := hK ▸ op_in_seq
theorem k_notIn : OpR X (compareOp .NotIn) (rIn K true) := hK ▸ op_notIn_seq
theorem k_len : CallR X (.builtin "len") (fun xs H Q => ∃ p ys, xs = [V.ref p] ∧ (SqL K H p ys ∨ SqT K H p ys) ∧ Q (.int ys.length) H) := hK ▸ call_len_seq
theorem k_list : CallR X (.type "list") (rListOf K) := hK ▸ call_list_of
theorem k_tuple : CallR X (.type "tuple") (rTupleOf K) := hK ▸ call_tuple_of
theorem k_isi : CallR X (.builtin "isinstance") (rIsi K) := hK ▸ call_isi
theorem k_sum (hc : X.calm = true) : CallR X (.builtin "sum") (rSum K) := hK ▸ cr_sum hc
theorem k_max (hc : X.calm = true) : CallR X (.builtin "max") (rMax K) := hK ▸ cr_max hc
theorem k_min (hc : X.calm = true) : CallR X (.builtin "min") (rMin K) := hK ▸ cr_min hc
theorem k_sorted : CallR X (.builtin "sorted") (rSortedI K) := hK ▸ cr_sortedI
theorem k_seq {tg l : Expr} {tl : TE} (hl : PE X l tl) : PI X tg l (iSeq K tl) := hK ▸ pi_seq hl
theorem k_rev {tg e : Expr} {te : TE} {p pos : Pos} (hg : Gl X "reversed") (hm : X.mg "reversed" = none) (he : PE X e te) (hs : starEach [e] X.env = (false, eval e X.env) :: starEach [] X.env := by rfl) : PI X tg (.Call (.Name "reversed" p) [e] [] pos) (iRevA K te) := hK ▸ pi_revA hg hm he hs
theorem k_gtup {es : List Expr} {k : Nat} {t : TGs} {n : Nat} {pos : Pos} (hc : X.calm = true) (h : PGs X es t)
    (hn : (assignEach es X.env).length = n := by rfl) (hst : (assignEach es X.env).findIdx? (·.1) = none := by rfl) : PG X (.Tuple es k pos) (gTup K n t) := hK ▸ pg_tup hc h hn hst
theorem k_bm {e : Expr} {to : TE} {ta : TA} {n : String} {r : V → List V → Hp → VK → Prop} (h : PE X e (tBM X.K n r to ta)) : PE X e (tBM K n r to ta) := hK ▸ h
theorem k_bm0 {e : Expr} {to : TE} {n : String} {r : V → List V → Hp → VK → Prop} (h : PE X e (tBM0 X.K n r to)) : PE X e (tBM0 K n r to) := hK ▸ h
end
theorem divL {i j : Int} (h : 0 < j ∧ j < 1606938044258990275541962092341162602522202993782792835301376) : CDivW i j := by
  refine wide_div h.1 (b := 200) ?_ (by decide) (by decide)
  have e : (2 : Nat) ^ 200 = 1606938044258990275541962092341162602522202993782792835301376 := by decide
  rw [e]
  omega
theorem setF_one {p : Addr} {o o' : MO} : setF [(p, o)] p o' = [(p, o')] := by simp [setF]
section
variable {K : PySem.W.Frag} {T : List Tb} {C : CC K T} {S : SS} {F : FP} {E : SE} {t u : TS}
theorem st_nx {N N' : SS → FP → Prop} (h : ST C t S F { E with nx := N }) (k : ∀ S' F', N S' F' → N' S' F') : ST C t S F { E with nx := N' } := fun σ H rs as D cv =>
  h σ H rs as D ⟨fun σ' H' S' F' e r a p => cv.nx σ' H' S' F' e r a (k S' F' p), cv.rt, cv.bk, cv.ct⟩
/-- all ways behind t meet in M -/
theorem st_cut (M : SS → FP → Prop) (h : ST C t S F { E with nx := M }) (k : ∀ S' F', M S' F' → ST C u S' F' E) : ST C (tSeq t u) S F E := st_seq (st_nx h k)
end
theorem map_get {α β : Type} {f : α → β} {l : List α} {i : Nat} {x : α} (h : l[i]? = some x) : (l.map f)[i]? = some (f x) := by rw [List.getElem?_map, h]; rfl
/-- an item of a list of ints -/
theorem ro_ixI {K : PySem.W.Frag} {T : List Tb} {C : CC K T} {F : FP} {P : SV → FP → Prop} {ns : List Int} {i : Int} (h0 : 0 ≤ i) (h1 : i < ns.length) (k : ∀ z, z ∈ ns → ns[i.toNat]? = some z → P (dI z) F) : RO C (rIx K) (.d (.list (ns.map .int))) (dI i) F P := by
  have h : ns[i.toNat]? = some (ns[i.toNat]'(by omega)) := List.getElem?_eq_getElem _
  exact ro_ixL (atI_nat' h0 (map_get h)) (k _ (List.mem_of_getElem? h) h)
theorem ro_ixIT {K : PySem.W.Frag} {T : List Tb} {C : CC K T} {F : FP} {P : SV → FP → Prop} {ns : List Int} {i : Int} (h0 : 0 ≤ i) (h1 : i < ns.length) (k : ∀ z, z ∈ ns → ns[i.toNat]? = some z → P (dI z) F) : RO C (rIx K) (.d (.tuple (ns.map .int))) (dI i) F P := by
  have h : ns[i.toNat]? = some (ns[i.toNat]'(by omega)) := List.getElem?_eq_getElem _
  exact ro_ixT (atI_nat' h0 (map_get h)) (k _ (List.mem_of_getElem? h) h)
theorem set_go {F : FP} {a : Addr} {xs : List SV} {k : Int} {j : Nat} {Q : Addr → List SV → Int → Nat → Prop} (hm : (a, MO.lst xs) ∈ F) (hx : ixN xs.length k = some j) (h : Q a xs k j) : ∃ a' xs k' j, SV.m a = SV.m a' ∧ dI k = dI k' ∧ (a', MO.lst xs) ∈ F ∧ ixN xs.length k' = some j ∧ Q a' xs k' j :=
  ⟨a, xs, k, j, rfl, rfl, hm, hx, h⟩
theorem app_go {F : FP} {a : Addr} {xs : List SV} {Q : Addr → List SV → Prop} (hm : (a, MO.lst xs) ∈ F) (h : Q a xs) : ∃ a' xs1, SV.m a = SV.m a' ∧ (a', MO.lst xs1) ∈ F ∧ Q a' xs1 := ⟨a, xs, rfl, hm, h⟩
theorem app_go2 {F : FP} {a : Addr} {xs : List SV} {Q : List SV → Prop} (hm : (a, MO.lst xs) ∈ F) (hz : xs.length < 16000000) (h : Q xs) : ∃ xs, (a, MO.lst xs) ∈ F ∧ xs.length < 16000000 ∧ Q xs := ⟨xs, hm, hz, h⟩
end G

namespace G
open PySem L2 RT PySem.Spec PyProof.Rows
def isTup : PyData → Bool
  | .tuple _ => true
  | _ => false
def isLst : PyData → Bool
  | .list _ => true
  | _ => false
def isBl : PyData → Bool
  | .bool _ => true
  | _ => false
def isInt : PyData → Bool
  | .int _ => true
  | .bool _ => true
  | _ => false
def isStr : PyData → Bool
  | .str _ => true
  | _ => false
section
variable {K : PySem.W.Frag} {T : List Tb} {C : CC K T} {S : SS} {F : FP} {P : SV → FP → Prop}
theorem rc_isiTup {d : PyData} (k : P (dB (isTup d)) F) : RC C (rIsi K) [.d d, .v (.ty "tuple")] F P := rc_isi (by cases d <;> (dsimp only [tyD, isTup, isLst, isBl, isInt, isStr]; decide +kernel)) k
theorem rc_isiLst {d : PyData} (k : P (dB (isLst d)) F) : RC C (rIsi K) [.d d, .v (.ty "list")] F P := rc_isi (by cases d <;> (dsimp only [tyD, isTup, isLst, isBl, isInt, isStr]; decide +kernel)) k
theorem rc_isiBl {d : PyData} (k : P (dB (isBl d)) F) : RC C (rIsi K) [.d d, .v (.ty "bool")] F P := rc_isi (by cases d <;> (dsimp only [tyD, isTup, isLst, isBl, isInt, isStr]; decide +kernel)) k
theorem rc_isiInt {d : PyData} (k : P (dB (isInt d)) F) : RC C (rIsi K) [.d d, .v (.ty "int")] F P := rc_isi (by cases d <;> (dsimp only [tyD, isTup, isLst, isBl, isInt, isStr]; decide +kernel)) k
theorem rc_isiStr {d : PyData} (k : P (dB (isStr d)) F) : RC C (rIsi K) [.d d, .v (.ty "str")] F P := rc_isi (by cases d <;> (dsimp only [tyD, isTup, isLst, isBl, isInt, isStr]; decide +kernel)) k
theorem ro_eqB {a b : Bool} (k : P (dB (a == b)) F) : RO C (rEqD K) (dB a) (dB b) F P := ro_eqD rfl rfl k
theorem ro_neB {a b : Bool} (k : P (dB (a != b)) F) : RO C (rNeD K) (dB a) (dB b) F P := ro_neD rfl rfl k
end
section
variable {P : Program} {w : World} {K : PySem.W.Frag} {mg : Str → Option Value} {base : Heap} {T : List Tb}
/-- a contract that nobody can call by -/
theorem fn_none {k : Nat} {f : Addr} {fd : FuncData} {ps : List Str} {c : Ct} (h : ∀ xs, ¬ c.pre xs) : FnOk P w K mg base CX0 k f fd ps (c.sp K T) :=
  ⟨fun vs H Q E hs => (h _ hs.2.choose_spec.choose_spec.2.2.2.1).elim, fun A outer s H args us vs Q E hr he hb hv hs => (h _ hs.2.choose_spec.choose_spec.2.2.2.1).elim⟩
end
/-- data of a depth of at most n, its lists and texts not too long -/
inductive Ok : Nat → PyData → Prop
  | non {n : Nat} : Ok n .none
  | bl {n : Nat} {b : Bool} : Ok n (.bool b)
  | int {n : Nat} {i : Int} : Ok n (.int i)
  | str {n : Nat} {s : Str} : (PyData.canLay0 (.str s)) = true → Ok n (.str s)
  | lst {n : Nat} {ds : List PyData} : ds.length < 16000000 → (∀ d ∈ ds, Ok n d) → Ok (n + 1) (.list ds)
  | tup {n : Nat} {ds : List PyData} : ds.length < 16000000 → (∀ d ∈ ds, Ok n d) → Ok (n + 1) (.tuple ds)
theorem noDics_of {ds : List PyData} (h : ∀ d ∈ ds, noDic d = true) : noDics ds = true := by
  induction ds with
  | nil => rfl
  | cons d ds ih =>
    rw [noDics, h d List.mem_cons_self, ih fun x hx => h x (List.mem_cons_of_mem _ hx)]
    rfl
theorem Ok.noDic {n : Nat} {d : PyData} (h : Ok n d) : noDic d = true := by
  induction h with
  | non => rfl
  | bl => rfl
  | int => rfl
  | str _ => rfl
  | lst _ h ih => rw [G.noDic]; exact noDics_of ih
  | tup _ h ih => rw [G.noDic]; exact noDics_of ih
theorem canAll {ds : List PyData} (h : ∀ d ∈ ds, PyData.canLay0 d = true) : PyData.canLayAll0 ds = true := by
  induction ds with
  | nil => rw [PyData.canLayAll0]
  | cons d ds ih =>
    rw [PyData.canLayAll0, h d (List.mem_cons_self), ih fun x hx => h x (List.mem_cons_of_mem _ hx)]
    rfl
theorem depAll {ds : List PyData} {n : Nat} (h : ∀ d ∈ ds, PyData.depth d ≤ n) : PyData.depthAll ds ≤ n := by
  induction ds with
  | nil => rw [PyData.depthAll]; exact Nat.zero_le _
  | cons d ds ih =>
    rw [PyData.depthAll]
    exact Nat.max_le.mpr ⟨h d (List.mem_cons_self), ih fun x hx => h x (List.mem_cons_of_mem _ hx)⟩
theorem Ok.can {n : Nat} {d : PyData} (h : Ok n d) : d.canLay0 = true ∧ d.depth ≤ n := by
  induction h with
  | non => exact ⟨by rw [PyData.canLay0], by rw [PyData.depth]; exact Nat.zero_le _⟩
  | bl => exact ⟨by rw [PyData.canLay0], by rw [PyData.depth]; exact Nat.zero_le _⟩
  | int => exact ⟨by rw [PyData.canLay0], by rw [PyData.depth]; exact Nat.zero_le _⟩
  | str h => exact ⟨h, by rw [PyData.depth]; exact Nat.zero_le _⟩
  | lst _ _ ih => exact ⟨by rw [PyData.canLay0]; exact canAll fun d hd => (ih d hd).1, by rw [PyData.depth]; exact Nat.succ_le_succ (depAll fun d hd => (ih d hd).2)⟩
  | tup _ _ ih => exact ⟨by rw [PyData.canLay0]; exact canAll fun d hd => (ih d hd).1, by rw [PyData.depth]; exact Nat.succ_le_succ (depAll fun d hd => (ih d hd).2)⟩
theorem Ok.shaped {n : Nat} {d : PyData} (h : Ok n d) (hn : n ≤ 60) : SeqAt.shaped d = true := by
  unfold SeqAt.shaped
  rw [h.can.1, decide_eq_true (Nat.le_trans h.can.2 (by omega))]
  rfl
abbrev OkAll (n : Nat) (ds : List PyData) : Prop := ∀ d ∈ ds, Ok n d
theorem okNil {n : Nat} : OkAll n [] := fun d h => nomatch h
theorem okCons {n : Nat} {d : PyData} {ds : List PyData} (h : Ok n d) (t : OkAll n ds) : OkAll n (d :: ds) := fun x hx => by
  rcases List.mem_cons.mp hx with rfl | hx
  · exact h
  · exact t x hx
theorem okInts {n : Nat} {ns : List Int} : OkAll n (ns.map .int) := fun x hx => by
  obtain ⟨i, _, rfl⟩ := List.mem_map.mp hx
  exact .int
theorem Ok.mono {n m : Nat} {d : PyData} (h : Ok n d) (hm : n ≤ m) : Ok m d := by
  induction h generalizing m with
  | non => exact .non
  | bl => exact .bl
  | int => exact .int
  | str h => exact .str h
  | lst hl _ ih => cases m with
    | zero => omega
    | succ m => exact .lst hl fun d hd => ih d hd (by omega)
  | tup hl _ ih => cases m with
    | zero => omega
    | succ m => exact .tup hl fun d hd => ih d hd (by omega)
/-- both data, the second one of a depth below n -/
def c_same (n : Nat) : Ct := ⟨2, fun xs => ∃ (d e : PyData) (k l : Nat), xs = [.d d, .d e] ∧ Ok k d ∧ k ≤ 60 ∧ Ok l e ∧ l < n ∧ n ≤ 60, fun xs y F => F = [] ∧ match xs with
  | [.d d, .d e] => ∃ b, y = dB b ∧ (b = true ↔ d = e)
  | _ => False⟩
/-- two lists of one length are one, if no place differs -/
theorem same_places {ds es : List PyData} (hl : ds.length = es.length) {p : Nat → Bool} (hp : ∀ i d e, ds[i]? = some d → es[i]? = some e → (p i = true ↔ d = e)) : ((List.range es.length).filter (fun i => !p i)).length = 0 ↔ ds = es := by
  constructor
  · intro h
    apply List.ext_getElem? 
    intro i
    by_cases hi : i < es.length
    · have h2 : i < ds.length := by omega
      rw [List.getElem?_eq_getElem hi, List.getElem?_eq_getElem h2]
      have q := (hp i _ _ (List.getElem?_eq_getElem h2) (List.getElem?_eq_getElem hi)).mp ?_
      · rw [q]
      · cases e : p i with
        | true => rfl
        | false =>
          have : i ∈ (List.range es.length).filter (fun i => !p i) := List.mem_filter.mpr ⟨List.mem_range.mpr hi, by rw [e]; rfl⟩
          rw [List.length_eq_zero_iff.mp h] at this
          cases this
    · rw [List.getElem?_eq_none (by omega), List.getElem?_eq_none (by omega)]
  · intro h
    subst h
    rw [List.length_eq_zero_iff, List.filter_eq_nil_iff]
    intro i hi
    have hi2 := List.mem_range.mp hi
    rw [(hp i _ _ (List.getElem?_eq_getElem hi2) (List.getElem?_eq_getElem hi2)).mpr rfl]
    simp
theorem rg0 (n : Nat) : rg 0 n = (List.range n).map fun i => dI (i : Nat) := by
  unfold rg
  apply List.map_congr_left
  intro i _
  rw [Int.zero_add]
end G

namespace G
open PySem L2 RT PySem.Spec PyProof.Rows
theorem fm_congr {α β : Type} {f g : α → Option β} : ∀ {l : List α}, (∀ a ∈ l, f a = g a) → l.filterMap f = l.filterMap g
  | [], _ => rfl
  | a :: l, h => by
    rw [List.filterMap_cons, List.filterMap_cons, h a (List.mem_cons_self), fm_congr fun b hb => h b (List.mem_cons_of_mem _ hb)]
/-! ### t[::-1] of a tuple, of a list -/
section
variable {prog : Program} {w : World} {A : Around} {E : Value → Shared → Prop} {s : Shared}
theorem adj_back (n : Nat) : Builtin.Slice.sliceAdjust none none (-1) (n : Int) = ((n : Int) - 1, -1) := by
  unfold Builtin.Slice.sliceAdjust
  rfl
theorem pls_back (n : Nat) : Builtin.Slice.slicePlaces ((n : Int) - 1) (-1) (-1) = n := by
  unfold Builtin.Slice.slicePlaces
  have q : ¬ ((-1 : Int) > 0) := by decide
  simp only [q, if_false]
  split
  · rw [show -(-1 : Int) = 1 from rfl, Int.ediv_one]; omega
  · omega
theorem applied_back {sa : Addr} {n : Nat} {t : Tok} {Q : Int × Int × Nat → Shared → Prop} (hs : s.heap.IsSliceOf sa .none .none (.int (-1) t)) (k : Q ((n : Int) - 1, -1, n) s) :
    wpAny (model prog w) A (Builtin.Slice.sliceApplied (.ref sa) (pure (n : Int))) Q E s := by
  obtain ⟨ob, e1, _, e3⟩ := id hs
  unfold Builtin.Slice.sliceApplied
  unfold Builtin.Slice.sliceFields
  refine wpAny_bind (wpAny_bind ?_)
  refine wpAny_field e1 e3 (x := .none) rfl (wpAny_bind ?_)
  refine wpAny_field e1 e3 (x := .none) rfl (wpAny_bind ?_)
  refine wpAny_field e1 e3 (x := .int (-1) t) rfl ?_
  refine wpAny_pure (wpAny_bind (slicePart_int ?_))
  show wpAny _ _ (if ((-1 : Int) == 0) = true then _ else _) _ _ s
  rw [if_neg (by decide)]
  refine wpAny_bind (slicePart_none (wpAny_bind (slicePart_none ?_)))
  refine wpAny_bind (wpAny_pure ?_)
  show wpAny _ _ (match Builtin.Slice.sliceAdjust none none (-1) (n : Int) with | (x, y) => pure (x, (-1 : Int), Builtin.Slice.slicePlaces x y (-1))) _ _ s
  rw [adj_back]
  show wpAny _ _ (pure ((n : Int) - 1, (-1 : Int), Builtin.Slice.slicePlaces ((n : Int) - 1) (-1) (-1))) _ _ s
  rw [pls_back]
  exact wpAny_pure k
theorem pick_back (xs : Array Value) : ((List.range xs.size).filterMap fun (m : Nat) => xs[((xs.size : Int) - 1 + (m : Int) * (-1)).toNat]?).toArray = xs.toList.reverse.toArray := by
  congr 1
  have gen : ∀ (l : List Value), (List.range l.length).filterMap (fun m => l[l.length - 1 - m]?) = l.reverse := by
    intro l
    apply List.ext_getElem?
    intro i
    have e : (List.range l.length).filterMap (fun m => l[l.length - 1 - m]?) = (List.range l.length).map (fun m => l.getD (l.length - 1 - m) .none) := by
      rw [← List.filterMap_eq_map]
      apply fm_congr
      intro m hm
      have := List.mem_range.mp hm
      have h2 : l.length - 1 - m < l.length := by omega
      simp [List.getD, h2]
    rw [e, List.getElem?_map]
    by_cases hi : i < l.length
    · rw [List.getElem?_range hi, List.getElem?_reverse hi]
      have h2 : l.length - 1 - i < l.length := by omega
      simp [List.getD, h2]
    · rw [List.getElem?_eq_none (by simpa using hi), List.getElem?_eq_none (by simpa using hi)]
      rfl
  have e2 : (List.range xs.size).filterMap (fun (m : Nat) => xs[((xs.size : Int) - 1 + (m : Int) * (-1)).toNat]?) = (List.range xs.toList.length).filterMap (fun m => xs.toList[xs.toList.length - 1 - m]?) := by
    rw [Array.length_toList]
    apply fm_congr
    intro m hm
    have := List.mem_range.mp hm
    rw [show ((xs.size : Int) - 1 + (m : Int) * (-1)).toNat = xs.size - 1 - m by omega, Array.getElem?_toList]
  rw [e2, gen]
theorem item_back {t sa : Addr} {items : Array Value} {k : Tok} {Q : Value → Shared → Prop} (ht : IsTup s.heap t items) (hs : s.heap.IsSliceOf sa .none .none (.int (-1) k))
    (h : Q (.ref s.heap.objs.size) { s with heap := s.heap.push { cls := .type "tuple", data := .seq items.toList.reverse.toArray } }) (hz : items.size ≤ sizeLine) :
    wpAny (model prog w) A (getItem (.ref t) (.ref sa)) Q E s := by
  have fits : sizeOk (.seq items.toList.reverse.toArray) := by
    show items.toList.reverse.toArray.size ≤ sizeLine
    simpa using hz
  obtain ⟨ob, e1, e2, e3⟩ := id hs
  have ty : s.TypeIs (.ref sa) "slice" := ⟨ob, e1, e2⟩
  unfold getItem
  try with_reducible refine wpAny_holding ?_
  first | (refine wpAny_bind (wpAny_pure ?_)) | skip
  refine wpAny_bind (wpAny_sequenceKey ht.typeIs (by decide) (wpAny_bind ?_))
  refine wpAny_callSpecial?_slot (name := Str.ofString "__getitem__") ht.typeIs slot_tuple_getitem ?_
  refine wpAny_call_entry slot_tuple_getitem ht.typeIs entry_tuple_getitem ?_ (args_tuple_getitem _ _)
  show wpAny _ _ (Builtin.Tuple.tupleItemsOf (.ref t) >>= _) _ _ s
  refine wpAny_bind (tupleItemsOf_ ht (wpAny_bind (wpAny_typeOf ty ?_)))
  rw [if_pos (by decide)]
  refine wpAny_bind (applied_back hs ?_)
  show wpAny _ _ (if ((((items.size : Int) - 1) == 0 && (-1 : Int) == 1 && items.size == items.size) = true) then _ else _) _ _ s
  rw [if_neg (by simp), pick_back]
  first
    | exact wpAny_bind (m := Builtin.Tuple.tupleExact _) (wpAny_newObj_type (wpAny_pure ⟨_, rfl, wpAny_pure h⟩) fits)
    | exact wpAny_bind (m := Builtin.Tuple.tupleExact _) (wpAny_newObj_type (wpAny_bind (wpAny_pure (wpAny_pure ⟨_, rfl, wpAny_pure h⟩))) fits)
end
section
variable {X : Cx}
/-- e[::-1], of a tuple or a list -/
def tBack (K : PySem.W.Frag) (te : TE) : TE := fun σ H Q => te σ H fun x H1 => ∃ a xs, x = .ref a ∧ ((SqT K H1 a xs ∧ ∀ p, H1 p = none → Q (.ref p) (upd H1 p (.tup xs.reverse))) ∨ (SqL K H1 a xs ∧ ∀ p, H1 p = none → Q (.ref p) (upd H1 p (.lst xs.reverse))))
theorem pe_back {e : Expr} {te : TE} {k : Nat} {q1 q2 q3 pos : Pos} (he : PE X e te) : PE X (.Subscript e (.Slice none none (some (.UnaryOp .USub (.Constant (.int 1) k q1) q2)) q3) pos) (tBack X.K te) := by
  constructor
  intro pins s σ H Q I h
  refine Subscript_ (thn (he.run pins s σ H _ I h) ?_)
  rintro v st ⟨x, Hx, Ix, rx, a, xs, ex, hx⟩
  subst ex
  cases rx
  have stp : PO X (some (.UnaryOp .USub (.Constant (.int 1) k q1) q2)) (tPart (tUn (rU fun i => .int (-i)) (tC (.int 1)))) := po_some (pe_un un_neg pe_int)
  refine wpAny_Slice (thn (po_none.run pins st σ Hx (fun o H2 => o = none ∧ H2 = Hx) Ix ⟨rfl, rfl⟩) ?_)
  rintro vl s2 ⟨l, H2, I2, pl, el, e2⟩
  subst el e2
  refine thn (po_none.run pins s2 σ H2 (fun o H3 => o = none ∧ H3 = H2) I2 ⟨rfl, rfl⟩) ?_
  rintro vu s3 ⟨u, H3, I3, pu, eu, e3⟩
  subst eu e3
  refine thn (stp.run pins s3 σ H3 (fun o H4 => o = some (-1) ∧ H4 = H3) I3 ⟨1, rfl, -1, rfl, rfl, rfl⟩) ?_
  rintro vs s4 ⟨o, H4, I4, ps, eo, e4⟩
  subst eo e4
  have I5 : Inv X pins σ H4 { s4 with heap := s4.heap.push { cls := .type "slice", data := .fields #[vl, vu, vs] } } := I4.kept (t' := s4.toks) fun _ _ q => Heap.get?_push_of_some _ q
  cases pl
  cases pu
  cases ps
  rename_i tk
  show wpAny (model X.prog X.w) X.A (subscriptTail e (.Slice none none (some (.UnaryOp .USub (.Constant (.int 1) k q1) q2)) q3) (.ref a) (.ref s4.heap.objs.size)) (EP X pins σ Q) X.xe { s4 with heap := s4.heap.push { cls := .type "slice", data := .fields #[.none, .none, .int (-1) tk] } }
  rcases hx with ⟨hx, hq⟩ | ⟨hx, hq⟩
  · obtain ⟨its, r, ht, hz⟩ := I5.tuple hx
    have hl := r.length
    refine tail_any (ops := [.ref a, .ref s4.heap.objs.size]) ht.typeIs (slot_tuple_getitem.lookup) ?_ (by with_unfolding_all rfl)
    refine item_back ht (Heap.IsSliceOf.new _ .none .none (.int (-1) tk)) ?_ (by rw [List.size_toArray]; omega)
    refine ⟨.ref _, _, I5.laid (t' := s4.toks) (o := .tup xs.reverse) (fun _ _ q => Heap.get?_push_of_some _ q) (Nat.le_refl _) ?_, rfl, hq _ (I5.hok.fresh (Nat.le_refl _))⟩
    exact ⟨by rw [List.length_reverse]; exact hz, its.reverse, r.reverse, ⟨_, Heap.get?_push_size _ rfl, rfl, _, rfl⟩⟩
  · obtain ⟨its, r, ht, hz⟩ := I5.list hx
    have hl := r.length
    refine tail_any (ops := [.ref a, .ref s4.heap.objs.size]) ht.isList.typeIs (PySem.slot_list_getitem.lookup) ?_ (by with_unfolding_all rfl)
    refine wpAny_getItem_list_slice ht.isList (Heap.IsSliceOf.new _ .none .none (.int (-1) tk)) .none .none (.int _ _) (by decide) ?_ (by rw [List.size_toArray]; omega)
    rw [PySem.W.krv_pick]
    refine ⟨.ref _, _, I5.laid (t' := s4.toks) (o := .lst xs.reverse) (fun _ _ q => Heap.get?_push_of_some _ q) (Nat.le_refl _) ?_, rfl, hq _ (I5.hok.fresh (Nat.le_refl _))⟩
    exact ⟨by rw [List.length_reverse]; exact hz, _, 0, r.reverse, Heap.get?_push_size _ rfl⟩
theorem k_back {K : PySem.W.Frag} (hK : X.K = K) {e : Expr} {te : TE} {k : Nat} {q1 q2 q3 pos : Pos} (he : PE X e te) : PE X (.Subscript e (.Slice none none (some (.UnaryOp .USub (.Constant (.int 1) k q1) q2)) q3) pos) (tBack K te) := hK ▸ pe_back he
end
section
variable {K : PySem.W.Frag} {T : List Tb} {C : CC K T} {S : SS} {F : FP} {P : SV → FP → Prop} {te : TE}
theorem tj_back (h : TJ C te S F fun x F1 => (∃ ds, x = .d (.tuple ds) ∧ P (.d (.tuple ds.reverse)) F1) ∨ (∃ ds, x = .d (.list ds) ∧ P (.d (.list ds.reverse)) F1)) : TJ C (tBack K te) S F P := fun σ H rs as Q q =>
  h σ H rs as _ fun v H1 x F1 e1 a1 r1 h3 => by
    rcases h3 with ⟨ds, ex, p⟩ | ⟨ds, ex, p⟩
    · subst ex
      cases r1 with
      | tup hl hd =>
        refine ⟨_, _, rfl, .inl ⟨sqt_sub hid_sub hl, fun l hn => ?_⟩⟩
        obtain ⟨e4, a4, r4⟩ := a1.newT hn (dps_rev hd)
        exact q _ _ _ F1 (e1.trans e4) a4 r4 p
    · subst ex
      cases r1 with
      | lst hl hd =>
        refine ⟨_, _, rfl, .inr ⟨sql_sub hid_sub hl, fun l hn => ?_⟩⟩
        obtain ⟨e4, a4, r4⟩ := a1.newL hn (dps_rev hd)
        exact q _ _ _ F1 (e1.trans e4) a4 r4 p
end
end G

namespace G
open PySem L2 RT PySem.Spec PyProof.Rows
section
variable {K : PySem.W.Frag} {T : List Tb} {C : CC K T} {S : SS} {F : FP} {P P' : SV → FP → Prop} {te : TE} {E : SE} {t : TS} {wi : TI} {tl : TA} {tt : TT}
theorem TJ.mono (h : TJ C te S F P') (k : ∀ x F', P' x F' → P x F') : TJ C te S F P := fun σ H rs as Q q => h σ H rs as Q fun v H' x F' e a r p => q v H' x F' e a r (k x F' p)
theorem CL.mono {sp : Sp} {xs : List SV} (h : CL C sp xs F P') (k : ∀ x F', P' x F' → P x F') : CL C sp xs F P := fun E H vs as r Q q => h E H vs as r Q fun v H' x F' e a r p => q v H' x F' e a r (k x F' p)
/-- an item of a written tuple at a place that is not written -/
theorem ro_ixA {ds : List PyData} {i : Int} (h0 : 0 ≤ i) (h1 : i < ds.length) (k : ∀ d ∈ ds, P (.d d) F) : RO C (rIx K) (.d (.tuple ds)) (dI i) F P := by
  have h : ds[i.toNat]? = some (ds[i.toNat]'(by omega)) := List.getElem?_eq_getElem _
  exact ro_ixT (atI_nat' h0 h) (k _ (List.mem_of_getElem? h))
/-- the first n names kept, the others forgotten -/
def keepS (n : Nat) (S : SS) : SS := S.take n ++ List.replicate (S.length - n) none
theorem st_keep (n : Nat) (h : ST C t (keepS n S) F E) : ST C t S F E := by
  refine st_forget (fun i x e => ?_) ?_ h
  · unfold keepS at e
    by_cases hi : i < (S.take n).length
    · rw [List.getElem?_append_left hi, List.getElem?_take] at e
      split at e
      · exact e
      · cases e
    · rw [List.getElem?_append_right (by omega), List.getElem?_replicate] at e
      split at e
      · cases e
      · cases e
  · unfold keepS
    simp
    omega
theorem keep1 {a : Option SV} {R : SS} {n : Nat} (h : R.length = n) : keepS 1 (a :: R) = a :: List.replicate n none := by subst h; simp [keepS]
theorem keep2 {a b : Option SV} {R : SS} {n : Nat} (h : R.length = n) : keepS 2 (a :: b :: R) = a :: b :: List.replicate n none := by subst h; simp [keepS]
theorem keep3 {a b c : Option SV} {R : SS} {n : Nat} (h : R.length = n) : keepS 3 (a :: b :: c :: R) = a :: b :: c :: List.replicate n none := by subst h; simp [keepS]
theorem keep4 {a b c d : Option SV} {R : SS} {n : Nat} (h : R.length = n) : keepS 4 (a :: b :: c :: d :: R) = a :: b :: c :: d :: List.replicate n none := by subst h; simp [keepS]

/-- owned objects are let go -/
theorem st_sub {F1 : FP} (s : List.Sublist F1 F) (h : ST C t S F1 E) : ST C t S F E := fun σ H rs as D cv => by
  obtain ⟨e, a⟩ := as.sublist s
  exact h σ H (rs.sub e) a D (cv.ev e)
theorem fz_d {F2 : FP} {x : PyData} {xs : List SV} {ds : List PyData} (h : FrzAll F xs F2 ds) : FrzAll F (.d x :: xs) F2 (x :: ds) := .cons (.d x) h
theorem tup_go {F2 : FP} {xs : List SV} {ds : List PyData} {Q : List PyData → FP → Prop} (fz : FrzAll F xs F2 ds) (hz : xs.length ≤ 1000) (h : Q ds F2) : ∃ ds F2, FrzAll F xs F2 ds ∧ xs.length ≤ 1000 ∧ Q ds F2 := ⟨ds, F2, fz, hz, h⟩
/-! ### the pool of a law -/
def isPool (mo : MO) : Prop := ∃ (ns : List Int) (i c n salt : Int), mo = .lst [.d (.list (ns.map .int)), dI i, dI c, dI n, dI salt] ∧ 0 ≤ i
def c_pool : Ct := ⟨1, fun xs => ∃ ns : List Int, xs = [.d (.list (ns.map .int))], fun xs y F => ∃ p mo, F = [(p, mo)] ∧ isPool mo ∧ y = .m p⟩
def c_spread : Ct := ⟨1, fun xs => ∃ a : Int, xs = [dI a], fun xs y F => F = [] ∧ ∃ z, y = dI z⟩
def c_draw : CtB := ⟨2, fun mo xs => isPool mo ∧ ∃ n : Int, xs = [dI n] ∧ 0 < n ∧ n < 2 ^ 199, fun mo xs y mo' => isPool mo' ∧ match xs with
  | [.d (.int n)] => ∃ v, y = dI v ∧ 0 ≤ v ∧ v < n
  | _ => False⟩
theorem two199 : (2 : Int) ^ 199 = 803469022129495137770981046170581301261101496891396417650688 := by decide
/-- a draw: the pool may stand among others -/
theorem cl_draw {p : Addr} {mo : MO} {n : Int} (hm : (p, mo) ∈ F) (hp : isPool mo) (h0 : 0 < n ∧ n < 803469022129495137770981046170581301261101496891396417650688) (k : ∀ v mo', 0 ≤ v → v < n → isPool mo' → P (dI v) (setF F p mo')) : CL C (c_draw.sp K T) [.m p, dI n] F P :=
  cl_ctb (c := c_draw) rfl hm ⟨hp, n, rfl, h0.1, by rw [two199]; exact h0.2⟩ fun y mo' ⟨h1, v, e, h2, h3⟩ => by
    subst e
    exact k v mo' h2 h3 h1
/-- .. the pool alone -/
theorem cl_draw1 {p : Addr} {mo : MO} {n : Int} (hp : isPool mo) (h0 : 0 < n ∧ n < 803469022129495137770981046170581301261101496891396417650688) (k : ∀ v mo', 0 ≤ v → v < n → isPool mo' → P (dI v) [(p, mo')]) : CL C (c_draw.sp K T) [.m p, dI n] [(p, mo)] P :=
  cl_draw (List.Mem.head _) hp h0 fun v mo' h1 h2 h3 => by
    rw [setF_one]
    exact k v mo' h1 h2 h3
/-- .. the pool behind a list that is being built -/
theorem cl_draw2 {p D : Addr} {o mo : MO} {n : Int} (hne : p ≠ D) (hp : isPool mo) (h0 : 0 < n ∧ n < 803469022129495137770981046170581301261101496891396417650688) (k : ∀ v mo', 0 ≤ v → v < n → isPool mo' → P (dI v) [(D, o), (p, mo')]) : CL C (c_draw.sp K T) [.m p, dI n] [(D, o), (p, mo)] P :=
  cl_draw (List.Mem.tail _ (List.Mem.head _)) hp h0 fun v mo' h1 h2 h3 => by
    have e : setF [(D, o), (p, mo)] p mo' = [(D, o), (p, mo')] := by simp [setF, Ne.symm hne]
    rw [e]
    exact k v mo' h1 h2 h3
/-! ### gcd by steps -/
/-- the steps of gcd -/
def gcdInv (a b : Nat) (i : Nat) (x y : Nat) : Prop := Nat.gcd x y = Nat.gcd a b ∧ (y = 0 ∨ (i = 0 ∧ x = a ∧ y = b) ∨ (1 ≤ i ∧ y ≤ x ∧ x * y * 2 ^ i ≤ 2 * b * b))
theorem gcdInv_step {a b i x y : Nat} (h : gcdInv a b i x y) (hy : y ≠ 0) : gcdInv a b (i + 1) y (x % y) := by
  obtain ⟨h1, h2⟩ := h
  refine ⟨?_, ?_⟩
  · rw [← h1, Nat.gcd_comm x y, Nat.gcd_rec y x, Nat.gcd_comm]
  have hlt : x % y < y := Nat.mod_lt _ (by omega)
  by_cases hz : x % y = 0
  · exact .inl hz
  refine .inr (.inr ⟨by omega, by omega, ?_⟩)
  rcases h2 with h2 | ⟨hi, hx, hy2⟩ | ⟨hi, hyx, hb⟩
  · exact absurd h2 hy
  · subst hi
    have : y * (x % y) ≤ b * b := by rw [hy2] at hlt ⊢; exact Nat.mul_le_mul_left _ (by omega)
    have e : y * (x % y) * 2 ^ (0 + 1) = 2 * (y * (x % y)) := by rw [Nat.zero_add, Nat.pow_one, Nat.mul_comm]
    rw [e, Nat.mul_assoc]
    exact Nat.mul_le_mul_left _ this
  · have hd : y * (x / y) + x % y = x := Nat.div_add_mod x y
    have hq : 1 ≤ x / y := Nat.div_pos hyx (by omega)
    have h3 : 2 * (x % y) ≤ x := by
      have : y * 1 ≤ y * (x / y) := Nat.mul_le_mul_left _ hq
      omega
    have e : y * (x % y) * 2 ^ (i + 1) = (2 * (x % y)) * y * 2 ^ i := by
      rw [Nat.pow_succ, Nat.mul_comm (2 ^ i) 2, ← Nat.mul_assoc, Nat.mul_comm y (x % y), Nat.mul_assoc (x % y) y 2, Nat.mul_comm y 2, ← Nat.mul_assoc, Nat.mul_comm (x % y) 2]
    rw [e]
    exact Nat.le_trans (Nat.mul_le_mul_right _ (Nat.mul_le_mul_right _ h3)) hb
theorem gcdInv_end {a b x y : Nat} (h : gcdInv a b 2000 x y) (hb : b < 2 ^ 500) : x = Nat.gcd a b := by
  obtain ⟨h1, h2⟩ := h
  have hy : y = 0 := by
    rcases h2 with h2 | ⟨hi, _⟩ | ⟨_, hyx, h3⟩
    · exact h2
    · omega
    · by_cases hy : y = 0
      · exact hy
      have : 1 ≤ x * y := Nat.mul_pos (by omega) (by omega)
      have h4 : 2 ^ 2000 ≤ x * y * 2 ^ 2000 := by
        have := Nat.mul_le_mul_right (2 ^ 2000) this
        rwa [Nat.one_mul] at this
      have h5 : 2 * b * b < 2 ^ 2000 := by
        have h6 : 2 * b * b ≤ 2 * 2 ^ 500 * 2 ^ 500 := Nat.mul_le_mul (by omega) (by omega)
        have h7 : (2 * 2 ^ 500 * 2 ^ 500 : Nat) < 2 ^ 2000 := by decide +kernel
        omega
      omega
  rw [hy, Nat.gcd_zero_right] at h1
  exact h1
theorem mod_nat (a b : Nat) : (a : Int) % (b : Int) = ((a % b : Nat) : Int) := (Int.natCast_emod a b).symm
theorem div_nat (a b : Nat) : (a : Int) / (b : Int) = ((a / b : Nat) : Int) := (Int.natCast_ediv a b).symm
/-- gcd -/
def c_common : Ct := ⟨2, fun xs => ∃ a b : Nat, xs = [dI a, dI b] ∧ b < 2 ^ 500, fun xs y F => F = [] ∧ match xs with
  | [.d (.int a), .d (.int b)] => y = dI (Int.gcd a b : Nat)
  | _ => False⟩
theorem cl_same {n k l : Nat} {d e : PyData} (hk : Ok k d) (k1 : k ≤ 60) (he : Ok l e) (l1 : l < n) (n1 : n ≤ 60) (q : ∀ b, (b = true ↔ d = e) → P (dB b) F) : CL C ((c_same n).sp K T) [.d d, .d e] F P :=
  cl_ct rfl ⟨d, e, k, l, rfl, hk, k1, he, l1, n1⟩ fun y F' ⟨h1, b, h2, h3⟩ _ => by
    subst h1 h2
    exact q b h3
theorem cl_same_yes {n k : Nat} {d e : PyData} (hde : d = e) (hk : Ok k d) (k1 : k < n) (n1 : n ≤ 60) (q : P (dB true) F) : CL C ((c_same n).sp K T) [.d d, .d e] F P := by
  subst hde
  refine cl_same hk (by omega) hk k1 n1 fun b hb => ?_
  rw [hb.mpr rfl]
  exact q
/-! ### a law's own promise -/
def c_law : Ct := ⟨1, fun xs => ∃ ns : List Int, xs = [.d (.list (ns.map .int))], fun _ y F => F = [] ∧ y = dB true⟩
end
section
theorem law_ready {K : PySem.W.Frag} {H : Hp} {a : Addr} {ns : List Int} {Q : VK} {Ex : XK} (hS : SqL K H a (ns.map V.int)) (k : ∀ H', Q (.bl true) H') : c_law.sp K [] [.ref a] H Q Ex := by
  refine ⟨rfl, [.d (.list (ns.map .int))], (fun _ => False), (fun _ (z : False) => z.elim), (fun b hb => absurd hb (by simp)), Paired.cons ?_ Paired.nil, ⟨ns, rfl⟩, fun y F' v H' ⟨hF, hy⟩ _ _ _ _ _ rv => ?_⟩
  · have e : hid (fun _ => False) [] [] H = H := by
      funext b
      unfold hid
      rw [if_neg (by simp)]
    rw [e]
    exact .lst hS (ints_dps ns)
  · subst hy
    rw [rv.bl]
    exact k H'
end
end G
namespace G
open PySem L2 RT PySem.Spec PyProof.Rows
/-! ### what the top has left of a def -/
def FnAt (K : PySem.W.Frag) (x : Str) (st : Stmt) : Prop := ∃ (f : Addr) (oc : Value) (od an : Option Addr) (sl : Array (Option Value)) (kV dc pm cd ct : Value),
  PySem.W.nsIn K mainGlobals x = some (some (.ref f)) ∧ K.lookup f = some ⟨oc, od, .func (PySem.W.fnOf x x (defArgs st) (defBody st) (defScope st) .none kV dc pm an cd ct), sl⟩ ∧ PySem.W.codeIn K cd x = true ∧ PySem.W.keepIn K (.ref f) = true
theorem fn_mk {K : PySem.W.Frag} {x : Str} {st : Stmt} {f : Addr} {oc : Value} {od an : Option Addr} {sl : Array (Option Value)} {kV dc pm cd ct : Value} (h1 : PySem.W.nsIn K mainGlobals x = some (some (.ref f))) (h2 : K.lookup f = some ⟨oc, od, .func (PySem.W.fnOf x x (defArgs st) (defBody st) (defScope st) .none kV dc pm an cd ct), sl⟩) (h3 : PySem.W.codeIn K cd x = true) (h4 : PySem.W.keepIn K (.ref f) = true) : FnAt K x st :=
  ⟨f, oc, od, an, sl, kV, dc, pm, cd, ct, h1, h2, h3, h4⟩
theorem fn_at {K : PySem.W.Frag} {x : Str} {st : Stmt} {h : Heap} {mg : Str → Option Value} (X : K.In h) (G : h.Ns mainGlobals mg) (a : FnAt K x st) :
    ∃ (f : Addr) (kV dc pm : Value) (an : Option Addr) (cd ct : Value), Fun K x x st f (PySem.W.fnOf x x (defArgs st) (defBody st) (defScope st) .none kV dc pm an cd ct) ∧ mg x = some (.ref f) := by
  obtain ⟨f, oc, od, an, sl, kV, dc, pm, cd, ct, h1, h2, h3, h4⟩ := a
  exact ⟨f, kV, dc, pm, an, cd, ct, fun_mk (st := st) h2 h3 h4, PySem.W.mg_of X G h1⟩
end G

namespace G
open PySem L2 RT PySem.Spec PyProof.Rows
/-! ### instances -/
/-- what the top has left of a class -/
structure ClsOk (K : PySem.W.Frag) (mg : Str → Option Value) (x : Str) (C : Addr) : Prop where
  cl : Cls K C
  mg : mg x = some (.ref C)
  kc : PySem.W.keepIn K (.ref C) = true
  mks : PySem.W.makesIn K C = true
/-- the class's method m keeps sp -/
def MethOk (P : Program) (w : World) (K : PySem.W.Frag) (mg : Str → Option Value) (base : Heap) (k : Nat) (C : Addr) (m : Str) (ps : List Str) (sp : Sp) : Prop :=
  ∃ (f : Addr) (fd : FuncData), FnOk P w K mg base CX0 k f fd ps sp ∧ Meth K C m f ∧ Binds K fd ps [] ∧ Cls K C
/-- the class is made, its __init__ keeps sp -/
def MakeOk (P : Program) (w : World) (K : PySem.W.Frag) (mg : Str → Option Value) (base : Heap) (k : Nat) (x : Str) (C : Addr) (ps : List Str) (sp : Sp) : Prop :=
  ∃ (f : Addr) (fd : FuncData), FnOk P w K mg base CX0 k f fd ps sp ∧ Mk K C f ∧ Binds K fd ps [] ∧ mg x = some (.ref C)
section
variable {X : Cx} {k : Nat} {x m : Str} {C : Addr} {ps : List Str} {sp : Sp} {o e : Expr} {es : List Expr} {t : TA} {ta : TE} {p pos apos : Pos} {pl : Sem Bool}
theorem pe_dmeth (D : MethOk X.prog X.w X.K X.mg X.base k C m ps sp) (hr : Room k X.A) (he : PE X o ta) (ha : PA X (e :: es) t)
    (hst : starEach (e :: es) X.env = (false, eval e X.env) :: starEach es X.env := by rfl) (hpl : (backTo pos (starEach es X.env)).any (·.1) = false := by rfl)
    (ht : eval (.Call (.Attribute o m apos) (e :: es) [] pos) X.env = (do
      let ov ← eval o X.env
      standAt apos.atName
      let (f, first) ← holding [ov] (getMethod ov m pl)
      callWith pos f first (backTo pos (starEach (e :: es) X.env)) (backToKw pos (keywordEach [] X.env))) := by rfl) :
    PE X (.Call (.Attribute o m apos) (e :: es) [] pos) (tMeth C m sp [] E0 ta t) := by
  obtain ⟨f, fd, F, hm, hb, c⟩ := D
  exact pe_meth (pl := pl) he c hm F hr hb .nil pass0 ha hst hpl ht
theorem pe_dmeth0 (D : MethOk X.prog X.w X.K X.mg X.base k C m ps sp) (hr : Room k X.A) (he : PE X o ta)
    (ht : eval (.Call (.Attribute o m apos) [] [] pos) X.env = (do
      let ov ← eval o X.env
      standAt apos.atName
      let (f, first) ← holding [ov] (getMethod ov m pl)
      callWith pos f first (backTo pos (starEach [] X.env)) (backToKw pos (keywordEach [] X.env))) := by rfl) :
    PE X (.Call (.Attribute o m apos) [] [] pos) (tMeth C m sp [] E0 ta tNil) := by
  obtain ⟨f, fd, F, hm, hb, c⟩ := D
  exact pe_meth0 (pl := pl) he c hm F hr hb .nil pass0 ht
theorem pe_dmake (D : MakeOk X.prog X.w X.K X.mg X.base k x C ps sp) (hr : Room (k + 1) X.A) (hg : Gl X x) (ha : PA X (e :: es) t) (hdb : (x == ("__debug__" : Str)) = false := by decide)
    (he : starEach (e :: es) X.env = (false, eval e X.env) :: starEach es X.env := by rfl) (hpl : (backTo pos (starEach es X.env)).any (·.1) = false := by rfl) : PE X (.Call (.Name x p) (e :: es) [] pos) (tMake C sp [] E0 t) := by
  obtain ⟨f, fd, F, hM, hb, hm⟩ := D
  exact pe_make hM F hr hg hm hb .nil pass0 ha hdb he hpl
end
section
variable {P : Program} {w : World} {K : PySem.W.Frag} {mg : Str → Option Value} {base : Heap}
theorem methok {x qual : Str} {st : Stmt} {f : Addr} {fd : FuncData} {ps : List Str} {k : Nat} {sp : Sp} {C : Addr} (F : Fun K x qual st f fd) (G : FnOk P w K mg base CX0 k f fd ps sp) (hm : Meth K C x f) (hb : Binds K fd ps []) (c : Cls K C) : MethOk P w K mg base k C x ps sp := ⟨f, fd, G, hm, hb, c⟩
end
section
variable {K : PySem.W.Frag} {T : List Tb} {C : CC K T} {S : SS} {F : FP} {P P' : SV → FP → Prop} {te ta : TE} {E : SE} {t : TS} {wi : TI} {tl : TA} {tt : TT}
theorem fs_look {H : Hp} {f : Str} {d : PyData} : ∀ {vs : List (Str × V)} {fs : List (Str × PyData)}, FsR K H vs fs → fs.lookup f = some d → ∃ v, vs.lookup f = some v ∧ Dq K H v d
  | _, _, .nil, h => by simp at h
  | (a, v) :: vs, (b, e) :: fs, .cons h t, g => by
    obtain ⟨h1, h2⟩ := h
    dsimp only at h1 h2
    subst h1
    rw [List.lookup_cons] at g ⊢
    cases hc : f == a with
    | true =>
      rw [hc] at g
      cases g
      exact ⟨_, rfl, h2⟩
    | false =>
      rw [hc] at g
      exact fs_look t g
theorem fs_none {H : Hp} {f : Str} : ∀ {vs : List (Str × V)} {fs : List (Str × PyData)}, FsR K H vs fs → fs.lookup f = none → vs.lookup f = none
  | _, _, .nil, h => rfl
  | (a, v) :: vs, (b, e) :: fs, .cons h t, g => by
    obtain ⟨h1, h2⟩ := h
    dsimp only at h1 h2
    subst h1
    rw [List.lookup_cons] at g ⊢
    cases hc : f == a with
    | true => rw [hc] at g; cases g
    | false =>
      rw [hc] at g
      exact fs_none t g
/-- a field of a frozen instance -/
theorem tj_fld {f : Str} {c : Addr} (hc : Cls K c) (hn : NoAttr K c f) (h : TJ C te S F fun x F1 => ∃ fs d, x = .o c fs ∧ fs.lookup f = some d ∧ P (.d d) F1) : TJ C (tFld K te f) S F P := fun σ H rs as Q q =>
  h σ H rs as _ fun v H1 x F1 e1 a1 r1 ⟨fs, d, ex, hl, p⟩ => by
    subst ex
    obtain ⟨a, dx, vs, rfl, h1, h2⟩ := r1
    obtain ⟨u, g1, g2⟩ := fs_look h2 hl
    exact ⟨a, c, dx, vs, u, rfl, hid_sub _ _ h1, hc, hn, g1, q u H1 (.d d) F1 e1 a1 g2 p⟩
/-- a method of a frozen instance -/
theorem tj_meth {m : Str} {c : Addr} {sp : Sp} (h : TJ C te S F fun x F1 => ∃ fs, x = .o c fs ∧ fs.lookup m = none ∧ TL C tl S F1 fun xs F2 => CL C sp (.o c fs :: xs) F2 P) : TJ C (tMeth c m sp [] E0 te tl) S F P := fun σ H rs as Q q =>
  h σ H rs as _ fun v H1 x F1 e1 a1 r1 ⟨fs, ex, hl, h1⟩ => by
    subst ex
    have r1' := r1
    obtain ⟨a, dx, vs, rfl, g1, g2⟩ := r1
    refine ⟨a, dx, vs, rfl, hid_sub _ _ g1, fs_none g2 hl, h1 σ H1 (rs.sub e1) a1 _ fun us H2 xs F2 e2 a2 r2 h2 => ?_⟩
    rw [List.append_nil]
    exact h2 E0 H2 _ a2 (.cons (RV.sub e2 r1') r2) Q fun z H3 u F3 e3 a3 r3 p => q z H3 u F3 ((e1.trans e2).trans e3) a3 r3 p
/-- a field set in an owned instance -/
def putS (f : Str) (y : SV) : List (Str × SV) → List (Str × SV)
  | [] => [(f, y)]
  | (g, x) :: r => if g = f then (g, y) :: r else (g, x) :: putS f y r
theorem putS_pair {H : Hp} {f : Str} {y : SV} {v : V} (r : RV K H y v) : ∀ {fs : List (Str × SV)} {vs : List (Str × V)}, Paired (fun (q : Str × SV) (p : Str × V) => p.1 = q.1 ∧ RV K H q.2 p.2) fs vs → Paired (fun (q : Str × SV) (p : Str × V) => p.1 = q.1 ∧ RV K H q.2 p.2) (putS f y fs) (putF f v vs)
  | [], [], .nil => .cons ⟨rfl, r⟩ .nil
  | (a, x) :: fs, (b, u) :: vs, .cons h t => by
    obtain ⟨h1, h2⟩ := h
    dsimp only at h1 h2
    subst h1
    unfold putS putF
    by_cases e : b = f
    · rw [if_pos e, if_pos e]
      exact .cons ⟨rfl, r⟩ t
    · rw [if_neg e, if_neg e]
      exact .cons ⟨rfl, h2⟩ (putS_pair r t)
theorem pair_len {α β : Type} {R : α → β → Prop} : ∀ {xs : List α} {ys : List β}, Paired R xs ys → xs.length = ys.length
  | _, _, .nil => rfl
  | _, _, .cons _ t => by simp [pair_len t]
theorem st_fld {f : Str} {c : Addr} (hc : Cls K c) (hn : NoAttr K c f) (h : TJ C te S F fun y F1 => TJ C ta S F1 fun x F2 => ∃ a dx fs, x = .m a ∧ (a, MO.ins c dx fs) ∈ F2 ∧ fs.length < 1000 ∧ E.nx S (setF F2 a (.ins c dx (putS f y fs)))) :
    ST C (sFld K ta te f) S F E := fun σ H rs as D cv =>
  h σ H rs as _ fun v H1 y F1 e1 a1 r1 h1 => h1 σ H1 (rs.sub e1) a1 _ fun w H2 x F2 e2 a2 r2 ⟨a, dx, fs, ex, hm, hl, p⟩ => by
    subst ex
    cases (show w = .ref a from r2)
    obtain ⟨vs, g1, g2⟩ := a2.mem _ hm
    refine ⟨a, c, dx, vs, rfl, g1, hc, hn, by rw [← pair_len g2]; exact hl, ?_⟩
    obtain ⟨e3, a3⟩ := a2.put (o := .ins c dx (putF f v vs)) (mo' := .ins c dx (putS f y fs)) hm ⟨_, upd_same, putS_pair (r1.sub e2) g2⟩
    exact cv.nx σ _ S _ ((e1.trans e2).trans e3) (rs.sub ((e1.trans e2).trans e3)) a3 p
/-- data fields -/
abbrev dFs (fs : List (Str × PyData)) : List (Str × SV) := fs.map fun q => (q.1, SV.d q.2)
theorem dfs_fsr {H : Hp} : ∀ {fs : List (Str × PyData)} {vs : List (Str × V)}, Paired (fun (q : Str × SV) (p : Str × V) => p.1 = q.1 ∧ RV K H q.2 p.2) (dFs fs) vs → FsR K H vs fs
  | [], _, .nil => .nil
  | _ :: _, _, .cons h t => .cons h (dfs_fsr t)
/-- a new instance, made by an __init__ that sets data fields, frozen -/
theorem tj_make {c : Addr} {cb : CtB} (h : TL C tl S F fun xs F1 => xs.length + 1 = cb.n ∧ ∀ dx, cb.pre (.ins c dx []) xs ∧ ∀ y mo', cb.post (.ins c dx []) xs y mo' → y = dN ∧ ∃ fs, mo' = .ins c dx (dFs fs) ∧ P (.o c fs) F1) : TJ C (tMake c (cb.sp K T) [] E0 tl) S F P := fun σ H rs as Q q =>
  h σ H rs as _ fun vs H1 xs F1 e1 a1 r1 ⟨hl, h1⟩ x dx hx hdx hne => by
    rw [List.append_nil]
    obtain ⟨hp, h2⟩ := h1 dx
    obtain ⟨ev2, as2⟩ := a1.laid (o := .own x) hdx
    have hx2 : upd H1 dx (.own x) x = none := by rw [upd_ne (Ne.symm hne)]; exact hx
    obtain ⟨ev3, as3⟩ := as2.new (o := .ins c dx []) (mo := .ins c dx []) hx2 fun Hh sb => ⟨[], upd_same, .nil⟩
    refine cl_ctb (K := K) (T := T) (C := C) (F := (x, MO.ins c dx []) :: F1) (P := fun y F2 => y = dN ∧ ∃ fs, F2 = (x, MO.ins c dx (dFs fs)) :: F1 ∧ P (.o c fs) F1) hl List.mem_cons_self hp (fun y mo' po => ?_) E0 _ (.ref x :: vs) as3 (.cons rfl (r1.sub (ev2.trans ev3))) _ fun z H4 u F4 e4 a4 r4 ⟨ey, fs, eF, p⟩ => ?_
    · obtain ⟨ey, fs, em, p⟩ := h2 y mo' po
      refine ⟨ey, fs, ?_, p⟩
      rw [setF_head, em]
      intro hm
      exact as2.there hm hx2
    · subst ey eF
      have hz : z = .non := by
        cases r4
        rfl
      refine ⟨hz, ?_⟩
      obtain ⟨us, g1, g2⟩ := a4.mem _ List.mem_cons_self
      have sb : List.Sublist F1 ((x, MO.ins c dx (dFs fs)) :: F1) := List.Sublist.cons _ (List.Sublist.refl _)
      obtain ⟨e5, a5⟩ := a4.sublist sb
      refine q (.ref x) H4 (.o c fs) F1 (((e1.trans ev2).trans ev3).trans (e4.trans e5)) a5 ⟨x, dx, us, rfl, ?_, dfs_fsr (Paired.mapP g2 fun p q z => ⟨z.1, z.2.sub e5⟩)⟩ p
      refine hid_some.mpr ⟨⟨fun hU => ?_, fun hT => ?_, fun hF => ?_⟩, g1⟩
      · exact a4.notU (List.mem_map.mpr ⟨_, List.mem_cons_self, rfl⟩) hU
      · exact (a4.own x (List.mem_map.mpr ⟨_, List.mem_cons_self, rfl⟩)).1 hT
      · have := a4.nd
        rw [List.map_cons, List.nodup_cons] at this
        exact this.1 hF
end
end G

namespace G
open PySem L2 RT PySem.Spec PyProof.Rows
/-! ### set(xs) of a list of ints -/
abbrev eS (w : World) : Obj := { cls := .type "set", dict := none, data := .set #[] 0 (.fresh 0 0 (!w.params.followText "set-order")) }
section
variable {P : Program} {w : World} {A : Around} {E : Value → Shared → Prop} {s : Shared}
theorem set_ofL {l : Addr} {items : Array Value} (ns : List Int) {Q : Value → Shared → Prop} (hh : A.handled = none) (hl : s.heap.IsList l items) (hit : IntsAre items.toList ns) (hb : ns.length + 1 < scanBound)
    (h : ∀ (h' : Heap) (tk c : Nat), SetR w h' s.heap.objs.size (fun j => decide (j ∈ ns)) c → (∀ b o, s.heap.get? b = some o → h'.get? b = some o) → Q (.ref s.heap.objs.size) { s with heap := h', toks := tk }) :
    wpAny (model P w) A (call (.type "set") [.ref l]) Q E s := by
  have hisz : items.size = ns.length := by
    rw [← Array.length_toList]
    exact IntsAre.length hit
  obtain ⟨_, _, hmro⟩ := F.called_set.mro
  have hmade := F.called_set.made
  have hsub := F.called_set.sub
  refine wpAny_call (codeAny_of_tree (show wpAny _ _ (callAny (.type "set") _) _ _ _ from ?_))
  refine wpAny_pure ⟨Code.quiet_builtin _ (by decide +kernel), codeAny_builtin F.entry_type_call ?_⟩
  rw [Around.under_plain (weight_type_call_type "set" [.ref l] []) rfl]
  have h1 := F.called_set.notType
  have h2 := F.called_set.canCreate
  have hct := F.typeCall_set_1 (.ref l)
  repeat (any_goals (first | assumption | wp_step))
  have hlS : l < s.heap.objs.size := by
    obtain ⟨ol, hol, _⟩ := hl
    exact Heap.lt_size hol
  have hS : (s.heap.push (eS w)).get? s.heap.objs.size = some (eS w) := Heap.get?_push_size _ rfl
  refine codeAny_mono (code_set_led1 (.ref l) (E := E) (Q₁ := fun obj s₁ => obj = .ref s.heap.objs.size ∧ s₁ = { s with heap := s.heap.push (eS w) }) ⟨rfl, rfl⟩) fun r s₁ hr => ?_
  match r, hr with
  | .error e, hr => exact hr
  | .ok (.ret obj), hr =>
    obtain ⟨rfl, rfl⟩ := hr
    have hT : Shared.TypeIs { s with heap := s.heap.push (eS w) } (.ref s.heap.objs.size) "set" := ⟨_, hS, rfl⟩
    have hli := F.called_set.init.lookup
    have hbi := F.called_set.init.bind (.ref s.heap.objs.size)
    repeat (any_goals (first | assumption | wp_step))
    refine codeAny_mono (codeAny_call_builtin (R := wants (fun r s₂ => r = .none ∧ ∃ h' tk c, s₂ = { s with heap := h', toks := tk } ∧ SetR w h' s.heap.objs.size (fun j => decide (j ∈ ns)) c ∧
        (∀ b o, s.heap.get? b = some o → h'.get? b = some o)) E) F.called_set.init.plain F.entry_set_init (check_set_init_1 hT ?_)) fun r₂ s₂ hr₂ => ?_
    · obtain ⟨⟨ocls, odict, odata, oslots⟩, hol, hcl, nl, hdl⟩ := hl
      simp only at hcl hdl
      subst hcl; subst hdl
      have hol' := Heap.get?_push_of_some (eS w) hol
      have hsls := F.sub_list_set
      have hslf := F.sub_list_frozenset
      have hne : (Value.type "list" == Value.type "dict") = false := by decide
      have hl1 : (s.heap.push (eS w)).IsList l items := ⟨_, hol', rfl, nl, rfl⟩
      unfold Builtin.«set.__init__» noKeywords Builtin.Frozenset.updateFrom
      generalize hPI : pyIter = PI
      wp_walk
      subst hPI
      refine wpAny_pyIter_list hl1 (wpAny_bind (wpAny_runValue ?_))
      have hh3 : A.in1.in1.in1.handled = none := by simp [hh]
      have hz : (s.heap.push (eS w)).objs.size = s.heap.objs.size + 1 := Heap.size_push ..
      have hval : ∀ (i : Nat) (v : Value), items[i]? = some v → ∃ k t, ns[i]? = some k ∧ v = .int k t := fun i v hv => by
        have hi : i < ns.length := by rw [← hisz]; exact (Array.getElem?_eq_some_iff.mp hv).1
        obtain ⟨t, e⟩ := IntsAre.int_at hit i v (by rw [Array.getElem?_toList]; exact hv)
        refine ⟨ns[i], t, List.getElem?_eq_getElem hi, ?_⟩
        rw [e, List.getD_eq_getElem?_getD, List.getElem?_eq_getElem hi] <;> rfl
      refine set_update_ints ((Walks.list hh3 _ l (by rw [hz]; exact Nat.ne_of_lt (Nat.lt_succ_of_lt hlS)) items).toS) s.heap.objs.size (by
        rw [hz]
        simp only [List.mem_cons, List.not_mem_nil, or_false, not_or]
        exact And.intro (Nat.ne_of_lt (Nat.lt_succ_self _)) (Nat.ne_of_gt hlS)) ns hisz hb hval (items.size - 0) 0 _ (by omega) (Nat.zero_le _) ⟨⟨_, Heap.get?_push_size _ rfl, rfl, rfl⟩, (hl1.push _)⟩
        ⟨0, Nat.le_refl 0, setR_new_at (Heap.get?_push_of_some _ hS)⟩ ?_
      intro s' c' hm hc' hS'
      obtain ⟨h', g2, d', tk', os'⟩ := s'
      cases (show g2 = s.gens from hm.gens)
      cases (show d' = s.drawn from hm.drawn)
      cases (show os' = s.os from hm.os)
      refine (show wpAny _ _ _ _ _ _ from wpAny_pure ?_)
      show wpAny _ _ (ret Value.none) _ _ _
      refine wpAny_pure ⟨rfl, h', tk', c', rfl, hS', fun b o e => ?_⟩
      have hb0 : b < s.heap.objs.size := Heap.lt_size e
      refine hm.heap b o (fun hx => ?_) (Heap.get?_push_of_some _ (Heap.get?_push_of_some _ e))
      simp only [List.mem_cons, List.not_mem_nil, or_false] at hx
      rcases hx with hx | hx
      · exact absurd hx (Nat.ne_of_lt hb0)
      · exact absurd (hx.trans hz) (Nat.ne_of_lt (Nat.lt_succ_of_lt hb0))
    · match r₂, hr₂ with
      | .error e, hr₂ => exact hr₂
      | .ok (.ret r), hr₂ =>
        obtain ⟨rfl, h', tk, c', rfl, hS', hk'⟩ := hr₂
        repeat (any_goals (first | assumption | wp_step))
        exact h _ _ _ hS' hk'
      | .ok .next, hr₂ => exact hr₂.elim
      | .ok .brk, hr₂ => exact hr₂.elim
      | .ok .cont, hr₂ => exact hr₂.elim
  | .ok .next, hr => exact hr.elim
  | .ok .brk, hr => exact hr.elim
  | .ok .cont, hr => exact hr.elim
end
theorem nodup_le {α : Type} : ∀ {l D : List α}, l.Nodup → (∀ x ∈ l, x ∈ D) → l.length ≤ D.length
  | [], _, _, _ => Nat.zero_le _
  | a :: l, D, h, s => by
    rw [List.nodup_cons] at h
    obtain ⟨D1, D2, rfl⟩ := List.append_of_mem (s a List.mem_cons_self)
    have := nodup_le (l := l) (D := D1 ++ D2) h.2 fun x hx => by
      have h1 := s x (List.mem_cons_of_mem _ hx)
      have h2 : x ≠ a := fun e => h.1 (by rw [← e]; exact hx)
      simp only [List.mem_append, List.mem_cons] at h1 ⊢
      rcases h1 with h1 | h1 | h1
      · exact .inl h1
      · exact absurd h1 h2
      · exact .inr h1
    simp only [List.length_append, List.length_cons] at this ⊢
    omega
theorem setR_le {w : World} {h : Heap} {a : Addr} {ns : List Int} {c : Nat} (R : SetR w h a (fun j => decide (j ∈ ns)) c) {D : List Int} (hD : ∀ k ∈ ns, k ∈ D) : c ≤ D.length := by
  obtain ⟨o, es, ep, t, _, _, _, _, nd, hm, _, _, hn, _⟩ := R
  have h1 := nodup_le nd (D := D) fun k hk => hD k (of_decide_eq_true ((hm k).mpr hk))
  rw [List.length_map, Array.length_toList, hn] at h1
  exact h1
/-- set(xs), a list of ints -/
def rSetI (K : PySem.W.Frag) (w : World) : List V → Hp → VK → Prop := fun vs H Q => ∃ (a : Addr) (ns : List Int), vs = [V.ref a] ∧ SqL K H a (ns.map V.int) ∧ ns.length + 1 < scanBound ∧
  ∀ (p : Addr) (c : Nat), (∀ D : List Int, (∀ k ∈ ns, k ∈ D) → c ≤ D.length) → H p = none → Q (.ref p) (upd H p (SetO w p (fun j => decide (j ∈ ns)) c))
section
variable {X : Cx}
theorem cr_setI (hc : X.calm = true) : CallR X (.type "set") (rSetI X.K X.w) := by
  intro pins s σ H vs us Q I r h
  obtain ⟨a, ns, rfl, hq, hb, q⟩ := h
  rw [Vals.ref1 r]
  obtain ⟨its, r2, pl, hz⟩ := I.list hq
  refine set_ofL ns (I.ok.hd hc) pl.isList (by simpa using r2.ints) hb fun h' tk c hS hk => ?_
  have hn : H s.heap.objs.size = none := I.hok.fresh (Nat.le_refl _)
  have J : Inv X pins σ (upd H s.heap.objs.size (SetO X.w s.heap.objs.size (fun j => decide (j ∈ ns)) c)) { s with heap := h', gens := s.gens, drawn := s.drawn, toks := tk } :=
    I.call (ch := []) (Un.laid hk (Nat.le_refl _) hn) (I.hok.laid hk (Nat.le_refl _) (setO_new hS)) I.bare (fun _ z => nomatch z)
  exact ⟨.ref _, _, J, rfl, q _ c (fun D hD => setR_le hS hD) hn⟩
end
end G

namespace G
open PySem L2 RT PySem.Spec PyProof.Rows
/-! ### sorted(found): a set of ints of any size -/
section
variable {P : Program} {w : World} {A : Around} {E : Value → Shared → Prop} {s : Shared} {a : Addr}
theorem sorted_setN {S : Int → Bool} {n : Nat} {Q : Value → Shared → Prop} (R : SetR w s.heap a S n) (hh : A.handled = none)
    (hQ : ∀ s' p (out : List Value) (c : Nat) (ns : List Int), (∀ b o, s.heap.get? b = some o → s'.heap.get? b = some o) → s'.gens = s.gens → s'.os = s.os → s.heap.objs.size ≤ p →
      s'.heap.get? p = some (seqObj "list" out.toArray c) → IntsAre out ns → ns.Pairwise (· < ·) → (∀ k, k ∈ ns ↔ S k = true) → ns.length = n → n ≤ sizeLine → Q (.ref p) s') :
    wpAny (model P w) A (call (.builtin "sorted") [.ref a]) Q E s := by
  obtain ⟨o, es, ep, t, ho, hex, hd, g, nd, hm, hb, hf, hn, hr, hl⟩ := R
  refine Calls.call_function_entry kind_sorted plain_sorted entry_sorted (args_sorted1 _) ?_
  unfold Builtin.«sorted»
  refine wpAny_bind (m := checkCount "sorted" 1 1 _) (wpAny_pure ?_)
  refine wpAny_bind (collect_set (A := A.in1) hh ⟨o, ho, hex.1, hd⟩ hf hb hr hl fun s1 vs k1 hz g1 o1 pm => ?_)
  have hvl : vs.length = n := by rw [pm.length_eq, List.length_map, Array.length_toList]; exact hn
  have hsl : n ≤ sizeLine := by rw [← hn]; exact fits_of_scanBound hb
  have hI : IntsAre vs (vs.map Builtin.Re.reRawOf) := ints_of vs fun v hv => by
    obtain ⟨e, he, q⟩ := List.mem_map.mp (pm.mem_iff.mp hv)
    obtain ⟨k, tk, h1, _⟩ := g e he
    exact ⟨k, tk, by rw [← q]; exact h1⟩
  have pk : (vs.map Builtin.Re.reRawOf).Perm (es.toList.map keyOf) := by
    have q := pm.map Builtin.Re.reRawOf
    rw [List.map_map] at q
    exact q
  refine wpAny_bind (wpAny_newList ?_ (by rw [hvl]; exact hsl))
  have hoL : (s1.heap.push (seqObj "list" vs.toArray 0)).get? s1.heap.objs.size = some (seqObj "list" vs.toArray 0) := Heap.get?_push_size _ rfl
  refine wpAny_bind (wpAny_holding (wpAny_call_entry slot_list_sort ⟨_, hoL, rfl⟩ entry_list_sort (SrtO.list_sort_ord SrtO.swo_int hoL (by rw [hvl]; exact hsl) (fun h2 => SrtO.ints_sortable hI h2) fun out hs hb2 => ⟨_, rfl, ?_⟩) (args_list_sort _)))
  obtain ⟨a1, a2, a3⟩ := SrtO.ints_out hI hs hb2
  obtain ⟨c, hc⟩ := sortedHeap_at (vs := vs) (out := out.toArray) hoL
  have pn : (out.map SrtO.iv).Perm (es.toList.map keyOf) := a2.trans pk
  refine wpAny_pure ⟨_, rfl, hQ _ s1.heap.objs.size out c (out.map SrtO.iv) (fun b u e => ?_) g1 o1 hz hc a1 (lt_of_le_nodup _ a3 (pn.nodup_iff.mpr nd)) (fun k => by rw [pn.mem_iff, ← hm k]) ?_ hsl⟩
  · have q := k1 b u e
    have hlt := Heap.lt_size q
    show (sortedHeap (s1.heap.push (seqObj "list" vs.toArray 0)) s1.heap.objs.size vs out.toArray).get? b = some u
    rw [sortedHeap_old (Nat.ne_of_lt hlt) (by rw [size_push']; exact Nat.lt_succ_of_lt hlt)]
    exact Heap.get?_push_of_some _ q
  · rw [pn.length_eq, List.length_map, Array.length_toList]; exact hn
end
def rSortedSetN (w : World) : List V → Hp → VK → Prop := fun vs H Q => ∃ (a : Addr) (S : Int → Bool) (n : Nat), vs = [V.ref a] ∧ H a = some (SetO w a S n) ∧
  ∀ (ns : List Int) (p : Addr), ns.Pairwise (· < ·) → (∀ k : Int, k ∈ ns ↔ S k = true) → ns.length = n → H p = none → Q (.ref p) (upd H p (.lst (ns.map V.int)))
section
variable {X : Cx}
theorem cr_sortedSetN (hc : X.calm = true) : CallR X (.builtin "sorted") (rSortedSetN X.w) := by
  intro pins s σ H vs us Q I r h
  obtain ⟨a, S, n, rfl, ha, q⟩ := h
  have R := setO_get I ha
  rw [Vals.ref1 r]
  refine sorted_setN R (I.ok.hd hc) fun s' p out c ns k g o hp hg hi hs hm hl hz => ?_
  have hlen : (ns.map V.int).length ≤ sizeLine := by rw [List.length_map, hl]; exact hz
  have hn : H p = none := I.hok.fresh hp
  have J : Inv X pins σ (upd H p (.lst (ns.map V.int))) { s with heap := s'.heap, gens := s'.gens, drawn := s'.drawn, toks := s'.toks } :=
    I.call (ch := []) (Un.laid k hp hn) (I.hok.laid k hp ⟨hlen, out, c, vals_of_ints hi, hg⟩) (by rw [g]; exact I.bare) (fun _ z => nomatch z)
  have e : s' = { s with heap := s'.heap, gens := s'.gens, drawn := s'.drawn, toks := s'.toks } := by
    cases s'
    cases s
    cases o
    rfl
  rw [e]
  exact ⟨.ref p, _, J, rfl, q ns p hs hm hl hn⟩
end
end G

namespace G
open PySem L2 RT PySem.Spec PyProof.Rows
section
variable {K : PySem.W.Frag} {T : List Tb} {C : CC K T} {S : SS} {F : FP} {P P' : SV → FP → Prop} {te ta : TE} {E : SE} {t : TS} {wi : TI} {tl : TA} {tt : TT}
/-- sorted(set(xs)) of ints: a new list -/
theorem tj_sortset {w : World} (h : TJ C te S F fun x F1 => ∃ ns, IntsL F1 x ns ∧ ns.length < 4000 ∧ ∀ (out : List Int) (p : Addr), out.Pairwise (· < ·) → (∀ k, k ∈ out ↔ k ∈ ns) → p ∉ F1.map (·.1) → P (.m p) ((p, .lst (out.map dI)) :: F1)) :
    TJ C (tCB (rSortedSetN w) (tCons (tCB (rSetI K w) (tCons te tNil)) tNil)) S F P := fun σ H rs as Q q => by
  refine h σ H rs as _ fun v H1 x F1 e1 a1 r1 ⟨ns, hi, hl, k⟩ => ?_
  obtain ⟨a, rfl, hq⟩ := hi.sq a1 r1
  refine ⟨a, ns, rfl, hq, by unfold scanBound; omega, fun p c hc hp => ⟨p, _, c, rfl, upd_same, fun out p2 o1 o2 o3 hp2 => ?_⟩⟩
  obtain ⟨e2, a2⟩ := a1.laid (o := SetO w p (fun j => decide (j ∈ ns)) c) hp
  obtain ⟨e3, a3⟩ := a2.new (o := .lst (out.map V.int)) (mo := .lst (out.map dI)) hp2 fun Hh sb => ⟨_, upd_same, by
    rw [dI_map]
    exact d_rvs (ints_dps out)⟩
  exact q _ _ (.m p2) _ ((e1.trans e2).trans e3) a3 rfl (k out p2 o1 (fun z => by rw [o2 z, decide_eq_true_iff]) fun hF => a2.there hF hp2)
/-- [x] * k -/
theorem ro_rep1 {l : Addr} {y : SV} {k : Int} (hm : (l, MO.lst [y]) ∈ F) (hk : 0 ≤ k ∧ k < 16000000) (q : ∀ p, p ∉ F.map (·.1) → P (.m p) ((p, .lst (List.replicate k.toNat y)) :: F)) : RO C rRep (.m l) (dI k) F P := fun H v u as rv ru Q g => by
  cases (show v = .ref l from rv)
  cases ru
  obtain ⟨vs, h1, h2⟩ := as.mem _ hm
  cases h2 with
  | cons hy ht =>
    rename_i z zs
    cases ht
    refine ⟨l, k, [z], rfl, rfl, h1, by omega, by omega, by
      show 1 * k.toNat ≤ sizeLine
      rw [sizeLine_eq]
      omega, fun p hp => ?_⟩
    have e : (List.replicate k.toNat [z]).flatten = List.replicate k.toNat z := by
      generalize k.toNat = n
      induction n with
      | zero => rfl
      | succ n ih => rw [List.replicate_succ, List.flatten_cons, ih]; rfl
    rw [e]
    obtain ⟨e3, a3⟩ := as.new (o := .lst (List.replicate k.toNat z)) (mo := .lst (List.replicate k.toNat y)) hp fun Hh sb => ⟨_, upd_same, by
      generalize k.toNat = n
      induction n with
      | zero => exact .nil
      | succ n ih => rw [List.replicate_succ, List.replicate_succ]; exact .cons (hy.sub sb) ih⟩
    exact g _ _ (.m p) _ e3 a3 rfl (q p fun hF => as.there hF hp)

/-! ### a call that reads an owned list -/
/-- nothing of the heap -/
inductive Flat : SV → Prop
  | m (a : Addr) : Flat (.m a)
  | int (i : Int) : Flat (dI i)
  | bl (b : Bool) : Flat (dB b)
  | non : Flat dN
theorem Flat.rv {H H' : Hp} {x : SV} {v : V} (f : Flat x) (r : RV K H x v) : RV K H' x v := by
  cases f with
  | m a => exact r
  | int i => cases r; exact Dq.int i
  | bl b => cases r; exact Dq.bl b
  | non => cases r; exact Dq.non
inductive FlatM : MO → Prop
  | lst {xs : List SV} : (∀ x ∈ xs, Flat x) → FlatM (.lst xs)
theorem flat_rvs {H H' : Hp} : ∀ {xs : List SV} {vs : List V}, (∀ x ∈ xs, Flat x) → RVs K H xs vs → RVs K H' xs vs
  | [], _, _, .nil => .nil
  | _ :: _, _, h, .cons a t => .cons ((h _ List.mem_cons_self).rv a) (flat_rvs (fun x hx => h x (List.mem_cons_of_mem _ hx)) t)
theorem FlatM.rm {Hh Hh' H : Hp} {a : Addr} {mo : MO} (f : FlatM mo) (r : RM K Hh H a mo) : RM K Hh' H a mo := by
  cases f with
  | lst h =>
    obtain ⟨vs, h1, h2⟩ := r
    exact ⟨vs, h1, flat_rvs h h2⟩
/-- some owned lists are told as data -/
def Lent (F : FP) (ls : List Addr) : List SV → List SV → Prop := Paired fun x y => y = x ∨ ∃ p ds, x = .m p ∧ p ∈ ls ∧ (p, MO.lst (ds.map .d)) ∈ F ∧ y = .d (.list ds)
theorem cl_ctR {c : Ct} {xs ys : List SV} (ls : List Addr) (ln : Lent F ls xs ys) (hn : xs.length = c.n) (hp : c.pre ys) (k : ∀ y F', c.post ys y F' → Flat y ∧ (∀ q ∈ F', FlatM q.2) ∧ ((∀ a, a ∈ F'.map (·.1) → a ∉ F.map (·.1)) → P y (F' ++ F))) : CL C (c.sp K T) xs F P := fun E H vs as r Q q => by
  have sbu : Sub (C.hid F H) (hid (fun a => C.U a ∨ (a ∈ F.map (·.1) ∧ a ∉ ls)) T [] H) := fun a o h => by
    obtain ⟨⟨h1, h2, h3⟩, h4⟩ := hid_some.mp h
    refine hid_some.mpr ⟨⟨fun z => ?_, h2, fun z => by simp at z⟩, h4⟩
    rcases z with z | z
    · exact h1 z
    · exact h3 z.1
  have conv : ∀ {xs ys : List SV} {vs : List V}, Lent F ls xs ys → RVs K (C.hid F H) xs vs → RVs K (hid (fun a => C.U a ∨ (a ∈ F.map (·.1) ∧ a ∉ ls)) T [] H) ys vs := fun {xs ys vs} ln r => by
    induction r generalizing ys with
    | nil => cases ln; exact .nil
    | cons a t ih =>
      cases ln with
      | cons h ht =>
        refine .cons ?_ (ih ht)
        rcases h with e | ⟨p, ds, rfl, hl, hm, rfl⟩
        · rw [e]; exact a.sub sbu
        · cases (show _ = V.ref p from a)
          obtain ⟨us, g1, g2⟩ := as.mem _ hm
          have hpF : p ∈ F.map (·.1) := List.mem_map.mpr ⟨_, hm, rfl⟩
          refine .lst (.inl (.inl (hid_some.mpr ⟨⟨fun z => ?_, (as.own p hpF).1, fun z => by simp at z⟩, g1⟩))) (dps_sub sbu (rvs_d g2))
          rcases z with z | z
          · exact as.notU hpF z
          · exact z.2 hl
  refine ⟨by rw [← rvs_len r]; exact hn, ys, fun a => C.U a ∨ (a ∈ F.map (·.1) ∧ a ∉ ls), fun a ha => ?_, as.tab, conv ln r, hp, fun y F' v H' po ex tb nd fr mem rv => ?_⟩
  · rcases ha with h | h
    · exact ⟨(C.hU a h).2.1, as.uH h⟩
    · exact ⟨(as.own a h.1).1, as.thereH h.1⟩
  · obtain ⟨fy, fF, k⟩ := k y F' po
    have dj : ∀ a, a ∈ F'.map (·.1) → a ∉ F.map (·.1) := fun a h1 h2 => as.there h2 (fr a h1).1
    have ev : Ev C F H (F' ++ F) H' := fun a o h => by
      obtain ⟨⟨h1, h2, h3⟩, h4⟩ := hid_some.mp h
      refine hid_some.mpr ⟨⟨h1, h2, fun z => ?_⟩, ex a o h2 h4⟩
      rw [List.map_append, List.mem_append] at z
      rcases z with z | z
      · rw [(fr a z).1] at h4; cases h4
      · exact h3 z
    refine q v H' y (F' ++ F) ev ⟨fun a o h1 h2 h3 => ex a o h2 (as.ex a o h1 h2 h3), tb, ?_, fun a h => ?_, fun p hp => ?_⟩ (fy.rv rv) (k dj)
    · rw [List.map_append, List.nodup_append]
      exact ⟨nd, as.nd, fun a h1 b h2 e => dj a h1 (by rw [e]; exact h2)⟩
    · rw [List.map_append, List.mem_append] at h
      rcases h with h | h
      · refine ⟨(fr a h).2, ?_⟩
        by_cases hB : C.B a
        · exact .inl hB
        · cases e : C.H0 a with
          | none => exact .inr rfl
          | some o =>
            have := as.ex a o hB (fr a h).2 e
            rw [(fr a h).1] at this
            cases this
      · exact as.own a h
    · rcases List.mem_append.mp hp with h | h
      · exact (fF p h).rm (mem p h)
      · refine (as.mem p h).sub ev ?_
        have hF : p.1 ∈ F.map (·.1) := List.mem_map.mpr ⟨p, h, rfl⟩
        cases e : H p.1 with
        | none => exact absurd e (as.there hF)
        | some o => exact ex _ _ (as.own _ hF).1 e
end
section
variable {X : Cx} {K : PySem.W.Frag} {w : World} (hK : X.K = K) (hw : X.w = w)
include hK hw
theorem k_setI (hc : X.calm = true) : CallR X (.type "set") (rSetI K w) := hK ▸ hw ▸ cr_setI hc
end
theorem k_sortedS {X : Cx} {w : World} (hw : X.w = w) (hc : X.calm = true) : CallR X (.builtin "sorted") (rSortedSetN w) := hw ▸ cr_sortedSetN hc
end G
namespace G
open PySem L2 RT PySem.Spec PyProof.Rows
/-! ### what the top has left of classes -/
structure ClsAt (K : PySem.W.Frag) (x : Str) (C : Addr) : Prop where
  at_ : PySem.W.nsIn K mainGlobals x = some (some (.ref C))
  cl : Cls K C
  mks : PySem.W.makesIn K C = true
  kc : PySem.W.keepIn K (.ref C) = true
theorem cls_mk {K : PySem.W.Frag} {x : Str} {C : Addr} (a : PySem.W.nsIn K mainGlobals x = some (some (.ref C))) (pg : PySem.W.plainGet K C Str.empty = true) (hd : PySem.W.hasDictIn K C = true) (po : PySem.W.plainOver K C = true)
    (sa : PySem.W.findIn K (.ref C) "__setattr__" = some (some (.builtin "object.__setattr__"))) (mk : PySem.W.makesIn K C = true) (kc : PySem.W.keepIn K (.ref C) = true) : ClsAt K x C := ⟨a, ⟨pg, hd, po, sa⟩, mk, kc⟩
theorem ClsAt.mg {K : PySem.W.Frag} {x : Str} {C : Addr} {h : Heap} {mg : Str → Option Value} (a : ClsAt K x C) (X : K.In h) (G : h.Ns mainGlobals mg) : mg x = some (.ref C) := PySem.W.mg_of X G a.at_
def MethAt (K : PySem.W.Frag) (C : Addr) (x qual : Str) (st : Stmt) : Prop := ∃ (f : Addr) (oc : Value) (od an : Option Addr) (sl : Array (Option Value)) (kV dc pm cd ct : Value),
  PySem.W.findIn K (.ref C) x = some (some (.ref f)) ∧ PySem.W.isFn K (.ref f) = true ∧ K.lookup f = some ⟨oc, od, .func (PySem.W.fnOf x qual (defArgs st) (defBody st) (defScope st) .none kV dc pm an cd ct), sl⟩ ∧ PySem.W.codeIn K cd qual = true ∧ PySem.W.keepIn K (.ref f) = true
theorem meth_mk {K : PySem.W.Frag} {C : Addr} {x qual : Str} {st : Stmt} {f : Addr} {oc : Value} {od an : Option Addr} {sl : Array (Option Value)} {kV dc pm cd ct : Value} (h1 : PySem.W.findIn K (.ref C) x = some (some (.ref f))) (hi : PySem.W.isFn K (.ref f) = true)
    (h2 : K.lookup f = some ⟨oc, od, .func (PySem.W.fnOf x qual (defArgs st) (defBody st) (defScope st) .none kV dc pm an cd ct), sl⟩) (h3 : PySem.W.codeIn K cd qual = true) (h4 : PySem.W.keepIn K (.ref f) = true) : MethAt K C x qual st :=
  ⟨f, oc, od, an, sl, kV, dc, pm, cd, ct, h1, hi, h2, h3, h4⟩
theorem meth_at {K : PySem.W.Frag} {C : Addr} {x qual : Str} {st : Stmt} (a : MethAt K C x qual st) :
    ∃ (f : Addr) (kV dc pm : Value) (an : Option Addr) (cd ct : Value), Fun K x qual st f (PySem.W.fnOf x qual (defArgs st) (defBody st) (defScope st) .none kV dc pm an cd ct) ∧ Meth K C x f := by
  obtain ⟨f, oc, od, an, sl, kV, dc, pm, cd, ct, h1, hi, h2, h3, h4⟩ := a
  exact ⟨f, kV, dc, pm, an, cd, ct, fun_mk (st := st) h2 h3 h4, h1, hi, h4⟩
section
variable {X : Cx} {K : PySem.W.Frag} (hK : X.K = K) {o e value : Expr} {f : Str} {pos pos' : Pos} {ta tv : TE}
include hK
theorem k_fld (he : PE X e ta) (hb : attributeBase e f X.env (eval e X.env) = eval e X.env) : PE X (.Attribute e f pos) (tFld K ta f) := hK ▸ pe_fld he hb
theorem k_sfld (ha : PE X o ta) (hv : PE X value tv) (hs : swapsWith value (some (.Attribute o f pos')) pos.line X.env = pure false) : PS X (.Assign [.Attribute o f pos'] value pos) (sFld K ta tv f) := hK ▸ ps_fld ha hv hs
end
end G

namespace MS
/-! ### sums of members -/
/-- n is a sum of members of l -/
inductive Sm (l : List Nat) : Nat → Prop
  | zero : Sm l 0
  | add {n a : Nat} : a ∈ l → Sm l n → Sm l (n + a)
theorem Sm.one {l : List Nat} {a : Nat} (h : a ∈ l) : Sm l a := by
  have := Sm.add h Sm.zero
  rwa [Nat.zero_add] at this
theorem Sm.plus {l : List Nat} {m n : Nat} (h : Sm l m) (g : Sm l n) : Sm l (m + n) := by
  induction g with
  | zero => exact h
  | add ha _ ih => rw [← Nat.add_assoc]; exact .add ha ih
theorem Sm.of {l l' : List Nat} {n : Nat} (h : ∀ a ∈ l, Sm l' a) (g : Sm l n) : Sm l' n := by
  induction g with
  | zero => exact .zero
  | add ha _ ih => exact ih.plus (h _ ha)
theorem Sm.mono {l l' : List Nat} {n : Nat} (h : ∀ a ∈ l, a ∈ l') (g : Sm l n) : Sm l' n := g.of fun a ha => .one (h a ha)
theorem Sm.mul {l : List Nat} {a : Nat} (k : Nat) (h : Sm l a) : Sm l (k * a) := by
  induction k with
  | zero => rw [Nat.zero_mul]; exact .zero
  | succ k ih => rw [Nat.succ_mul]; exact ih.plus h
theorem sm_nil {n : Nat} : Sm [] n ↔ n = 0 := by
  constructor
  · intro h
    cases h with
    | zero => rfl
    | add h _ => cases h
  · rintro rfl
    exact .zero
theorem sm_snoc {l : List Nat} {a n : Nat} : Sm (l ++ [a]) n ↔ Sm l n ∨ (a ≤ n ∧ Sm (l ++ [a]) (n - a)) := by
  constructor
  · intro h
    induction h with
    | zero => exact .inl .zero
    | @add n b hb g ih =>
      rcases List.mem_append.mp hb with hb | hb
      · rcases ih with ih | ⟨h1, h2⟩
        · exact .inl (.add hb ih)
        · refine .inr ⟨by omega, ?_⟩
          rw [show n + b - a = (n - a) + b by omega]
          exact .add (List.mem_append_left _ hb) h2
      · cases List.mem_singleton.mp hb
        refine .inr ⟨by omega, ?_⟩
        rw [Nat.add_sub_cancel]
        exact g
  · rintro (h | ⟨h1, h2⟩)
    · exact h.mono fun a ha => List.mem_append_left _ ha
    · have := Sm.add (a := a) (List.mem_append_right l List.mem_cons_self) h2
      rwa [Nat.sub_add_cancel h1] at this
theorem sm_dvd {l : List Nat} {d n : Nat} (h : ∀ a ∈ l, d ∣ a) (g : Sm l n) : d ∣ n := by
  induction g with
  | zero => exact Nat.dvd_zero _
  | add ha _ ih => exact Nat.dvd_add ih (h _ ha)
open Classical in
noncomputable def smb (l : List Nat) (n : Nat) : Bool := decide (Sm l n)
theorem smb_iff {l : List Nat} {n : Nat} : smb l n = true ↔ Sm l n := by
  unfold smb
  exact @decide_eq_true_iff _ (Classical.propDecidable _)
theorem smb_no {l : List Nat} {n : Nat} : smb l n = false ↔ ¬ Sm l n := by
  rw [← smb_iff]
  cases smb l n <;> simp
/-- the table while the member a is laid, the places below a + i done -/
noncomputable def tabF (l : List Nat) (a i n : Nat) : Bool := if n < a + i then smb (l ++ [a]) n else smb l n
theorem tab0 {l : List Nat} {a : Nat} (n : Nat) : tabF l a 0 n = smb l n := by
  unfold tabF
  split
  · rename_i h
    rw [Bool.eq_iff_iff, smb_iff, smb_iff, sm_snoc]
    constructor
    · rintro (h1 | ⟨h1, _⟩)
      · exact h1
      · omega
    · exact .inl
  · rfl
theorem tabS {l : List Nat} {a i : Nat} (ha : 1 ≤ a) (n : Nat) : tabF l a (i + 1) n = if n = a + i ∧ tabF l a i i = true then true else tabF l a i n := by
  unfold tabF
  by_cases h : n = a + i
  · subst h
    rw [if_pos (by omega), if_pos (show i < a + i by omega), if_neg (Nat.lt_irrefl _)]
    rw [Bool.eq_iff_iff]
    by_cases g : smb (l ++ [a]) i = true
    · rw [if_pos ⟨rfl, g⟩]
      simp only [iff_true]
      rw [smb_iff, sm_snoc]
      refine .inr ⟨by omega, ?_⟩
      rw [Nat.add_sub_cancel_left]
      exact smb_iff.mp g
    · rw [if_neg (fun z => g z.2), smb_iff, smb_iff, sm_snoc]
      constructor
      · rintro (h1 | ⟨_, h1⟩)
        · exact h1
        · rw [Nat.add_sub_cancel_left] at h1
          exact absurd (smb_iff.mpr h1) g
      · exact .inl
  · have hc : ¬ (n = a + i ∧ (if i < a + i then smb (l ++ [a]) i else smb l i) = true) := fun z => h z.1
    rw [if_neg hc]
    by_cases h1 : n < a + i
    · rw [if_pos h1, if_pos (by omega)]
    · rw [if_neg h1, if_neg (by omega)]
theorem tabE {l : List Nat} {a i n : Nat} (h : n < a + i) : tabF l a i n = smb (l ++ [a]) n := by
  unfold tabF
  rw [if_pos h]

/-! ### rows of least sums -/
abbrev Row := List (Option Nat)
/-- the least sums by remainders -/
def IsRow (l : List Nat) (m : Nat) (row : Row) : Prop := row.length = m ∧ ∀ r, r < m →
  (∃ v, row[r]? = some (some v) ∧ Sm l v ∧ v % m = r ∧ ∀ n, Sm l n → n % m = r → v ≤ n) ∨ (row[r]? = some none ∧ ∀ n, Sm l n → n % m ≠ r)
theorem IsRow.uniq {l l' : List Nat} {m : Nat} {row row' : Row} (hl : ∀ n, Sm l n ↔ Sm l' n) (h : IsRow l m row) (g : IsRow l' m row') : row = row' := by
  apply List.ext_getElem?
  intro r
  by_cases hr : r < m
  · rcases h.2 r hr with ⟨v, e1, h1, h2, h3⟩ | ⟨e1, h1⟩ <;> rcases g.2 r hr with ⟨w, e2, g1, g2, g3⟩ | ⟨e2, g1⟩
    · rw [e1, e2, Nat.le_antisymm (h3 w ((hl w).mpr g1) g2) (g3 v ((hl v).mp h1) h2)]
    · exact absurd h2 (g1 v ((hl v).mp h1))
    · exact absurd g2 (h1 w ((hl w).mpr g1))
    · rw [e1, e2]
  · rw [List.getElem?_eq_none (by rw [h.1]; omega), List.getElem?_eq_none (by rw [g.1]; omega)]
/-- one step of the search -/
def one (m : Nat) (rem num : Nat) (st : Row × List Nat) : Row × List Nat :=
  match st.1[rem]? with
  | some (some v) =>
    match st.1[(v + num) % m]? with
    | some (some w) => if v + num < w then (st.1.set ((v + num) % m) (some (v + num)), st.2 ++ [(v + num) % m]) else st
    | some none => (st.1.set ((v + num) % m) (some (v + num)), st.2 ++ [(v + num) % m])
    | none => st
  | _ => st
def inner (m : Nat) (l : List Nat) (rem : Nat) (st : Row × List Nat) : Row × List Nat := l.foldl (fun st num => one m rem num st) st
def level (m : Nat) (l lev : List Nat) (st : Row × List Nat) : Row × List Nat := lev.foldl (fun st rem => inner m l rem st) st
def sortU (m : Nat) (xs : List Nat) : List Nat := (List.range m).filter (fun k => decide (k ∈ xs))
def round (m : Nat) (l : List Nat) (st : Row × List Nat) : Row × List Nat := ((level m l st.2 (st.1, [])).1, sortU m (level m l st.2 (st.1, [])).2)
def rounds (m : Nat) (l : List Nat) : Nat → Row × List Nat → Row × List Nat
  | 0, st => st
  | n + 1, st => rounds m l n (round m l st)
/-- what a step does -/
theorem one_cases {m rem num : Nat} (st : Row × List Nat) : one m rem num st = st ∨ ∃ v, st.1[rem]? = some (some v) ∧ one m rem num st = (st.1.set ((v + num) % m) (some (v + num)), st.2 ++ [(v + num) % m]) ∧
    (st.1[(v + num) % m]? = some none ∨ ∃ w, st.1[(v + num) % m]? = some (some w) ∧ v + num < w) := by
  unfold one
  split
  · rename_i v hv
    split
    · rename_i w hw
      split
      · rename_i hlt
        exact .inr ⟨v, hv, rfl, .inr ⟨w, hw, hlt⟩⟩
      · exact .inl rfl
    · rename_i hw
      exact .inr ⟨v, hv, rfl, .inl hw⟩
    · exact .inl rfl
  · exact .inl rfl
/-- what holds of the row -/
structure Good (l : List Nat) (m : Nat) (row : Row) : Prop where
  len : row.length = m
  zero : row[0]? = some (some 0)
  val : ∀ r v, row[r]? = some (some v) → Sm l v ∧ v % m = r
theorem one_good {l : List Nat} {m rem num : Nat} {st : Row × List Nat} (hn : num ∈ l) (h1 : 1 ≤ num) (g : Good l m st.1) : Good l m (one m rem num st).1 := by
  rcases one_cases (m := m) (rem := rem) (num := num) st with e | ⟨v, hv, e, h⟩
  · rw [e]; exact g
  · rw [e]
    refine ⟨by rw [List.length_set]; exact g.len, ?_, fun r w hw => ?_⟩
    · show (st.1.set _ _)[0]? = _
      rw [List.getElem?_set]
      split
      · rename_i hz
        rcases h with h | ⟨w, h, hlt⟩
        · rw [hz, g.zero] at h; cases h
        · rw [hz, g.zero] at h
          cases h
          omega
      · exact g.zero
    · have hw : (st.1.set ((v + num) % m) (some (v + num)))[r]? = some (some w) := hw
      rw [List.getElem?_set] at hw
      split at hw
      · rename_i hr
        split at hw
        · cases hw
          exact ⟨.add hn (g.val _ _ hv).1, hr⟩
        · cases hw
      · exact g.val r w hw
/-- closed at r under a, or told again -/
def G1 (m : Nat) (st : Row × List Nat) (r a : Nat) : Prop := r ∈ st.2 ∨ ∀ v, st.1[r]? = some (some v) → ∃ w, st.1[(v + a) % m]? = some (some w) ∧ w ≤ v + a
theorem one_g1 {m rem num : Nat} {st : Row × List Nat} {r a : Nat} (h : G1 m st r a) : G1 m (one m rem num st) r a := by
  rcases one_cases (m := m) (rem := rem) (num := num) st with e | ⟨v, hv, e, k⟩
  · rw [e]; exact h
  · rw [e]
    rcases h with h | h
    · exact .inl (List.mem_append_left _ h)
    · by_cases hr : r = (v + num) % m
      · exact .inl (List.mem_append_right _ (by rw [hr]; exact List.mem_cons_self))
      · refine .inr fun u hu => ?_
        have hu : (st.1.set ((v + num) % m) (some (v + num)))[r]? = some (some u) := hu
        rw [List.getElem?_set, if_neg (Ne.symm hr)] at hu
        obtain ⟨w, hw, hle⟩ := h u hu
        show ∃ w, (st.1.set ((v + num) % m) (some (v + num)))[(u + a) % m]? = some (some w) ∧ w ≤ u + a
        rw [List.getElem?_set]
        split
        · rename_i hp
          rw [← hp] at hw
          rcases k with k | ⟨w', k, hlt⟩
          · rw [k] at hw; cases hw
          · rw [k] at hw
            cases hw
            rw [if_pos (List.getElem?_eq_some_iff.mp k).1]
            exact ⟨_, rfl, by omega⟩
        · exact ⟨w, hw, hle⟩
theorem one_sets {l : List Nat} {m rem num : Nat} {st : Row × List Nat} (hm : 0 < m) (h1 : 1 ≤ num) (g : Good l m st.1) : G1 m (one m rem num st) rem num := by
  rcases hrem : st.1[rem]? with _ | _ | v
  · refine .inr fun v hv => ?_
    have : one m rem num st = st := by unfold one; rw [hrem]
    rw [this, hrem] at hv
    cases hv
  · refine .inr fun v hv => ?_
    have : one m rem num st = st := by unfold one; rw [hrem]
    rw [this, hrem] at hv
    cases hv
  · have hp : (v + num) % m < st.1.length := by rw [g.len]; exact Nat.mod_lt _ hm
    have set : ∀ (x : Row × List Nat), x = (st.1.set ((v + num) % m) (some (v + num)), st.2 ++ [(v + num) % m]) → (st.1[(v + num) % m]? = some none ∨ ∃ w, st.1[(v + num) % m]? = some (some w) ∧ v + num < w) → G1 m x rem num := by
      rintro x rfl k
      refine .inr fun u hu => ?_
      have hne : (v + num) % m ≠ rem := fun e => by
        rw [e, hrem] at k
        rcases k with k | ⟨w, k, hlt⟩
        · cases k
        · cases k; omega
      have hu : (st.1.set ((v + num) % m) (some (v + num)))[rem]? = some (some u) := hu
      rw [List.getElem?_set, if_neg hne, hrem] at hu
      cases hu
      show ∃ w, (st.1.set ((v + num) % m) (some (v + num)))[(v + num) % m]? = some (some w) ∧ w ≤ v + num
      rw [List.getElem?_set, if_pos rfl, if_pos hp]
      exact ⟨_, rfl, Nat.le_refl _⟩
    unfold one
    rw [hrem]
    dsimp only
    rcases hpl : st.1[(v + num) % m]? with _ | _ | w
    · rw [List.getElem?_eq_none_iff] at hpl
      omega
    · exact set _ rfl (.inl hpl)
    · dsimp only
      split
      · rename_i hlt
        exact set _ rfl (.inr ⟨w, hpl, hlt⟩)
      · refine .inr fun u hu => ?_
        rw [hrem] at hu
        cases hu
        exact ⟨w, hpl, by omega⟩
section
variable {l : List Nat} {m : Nat} (hm : 0 < m) (hl : ∀ a ∈ l, 1 ≤ a)
include hm hl
theorem inner_ok {rem : Nat} : ∀ (ns : List Nat) (st : Row × List Nat), (∀ a ∈ ns, a ∈ l) → Good l m st.1 →
    Good l m (ns.foldl (fun st num => one m rem num st) st).1 ∧ (∀ r a, G1 m st r a → G1 m (ns.foldl (fun st num => one m rem num st) st) r a) ∧ ∀ a ∈ ns, G1 m (ns.foldl (fun st num => one m rem num st) st) rem a
  | [], st, _, g => ⟨g, fun _ _ h => h, fun _ h => nomatch h⟩
  | a :: ns, st, hs, g => by
    have ha := hs a List.mem_cons_self
    obtain ⟨h1, h2, h3⟩ := inner_ok ns (one m rem a st) (fun b hb => hs b (List.mem_cons_of_mem _ hb)) (one_good ha (hl a ha) g)
    refine ⟨h1, fun r b h => h2 r b (one_g1 h), fun b hb => ?_⟩
    rcases List.mem_cons.mp hb with rfl | hb
    · exact h2 _ _ (one_sets hm (hl _ ha) g)
    · exact h3 b hb
theorem level_ok : ∀ (lev : List Nat) (st : Row × List Nat), Good l m st.1 →
    Good l m (level m l lev st).1 ∧ (∀ r a, G1 m st r a → G1 m (level m l lev st) r a) ∧ ∀ r ∈ lev, ∀ a ∈ l, G1 m (level m l lev st) r a
  | [], st, g => ⟨g, fun _ _ h => h, fun _ h => nomatch h⟩
  | x :: lev, st, g => by
    obtain ⟨i1, i2, i3⟩ := inner_ok hm hl (rem := x) l st (fun _ h => h) g
    obtain ⟨h1, h2, h3⟩ := level_ok lev (inner m l x st) i1
    refine ⟨h1, fun r b h => h2 r b (i2 r b h), fun r hr a ha => ?_⟩
    rcases List.mem_cons.mp hr with rfl | hr
    · exact h2 _ _ (i3 a ha)
    · exact h3 r hr a ha
end
theorem one_lt {l : List Nat} {m rem num : Nat} {st : Row × List Nat} (hm : 0 < m) (h : ∀ r ∈ st.2, r < m) : ∀ r ∈ (one m rem num st).2, r < m := by
  rcases one_cases (m := m) (rem := rem) (num := num) st with e | ⟨v, hv, e, k⟩
  · rw [e]; exact h
  · rw [e]
    intro r hr
    rcases List.mem_append.mp hr with hr | hr
    · exact h r hr
    · cases List.mem_singleton.mp hr
      exact Nat.mod_lt _ hm
theorem inner_lt {m rem : Nat} (hm : 0 < m) : ∀ (ns : List Nat) (st : Row × List Nat), (∀ r ∈ st.2, r < m) → ∀ r ∈ (ns.foldl (fun st num => one m rem num st) st).2, r < m
  | [], _, h => h
  | a :: ns, st, h => inner_lt hm ns _ (one_lt (l := []) hm h)
theorem level_lt {l : List Nat} {m : Nat} (hm : 0 < m) : ∀ (lev : List Nat) (st : Row × List Nat), (∀ r ∈ st.2, r < m) → ∀ r ∈ (level m l lev st).2, r < m
  | [], _, h => h
  | a :: ns, st, h => level_lt hm ns _ (inner_lt hm l st h)
/-- the length of what is told again -/
theorem one_len {m rem num : Nat} (st : Row × List Nat) : (one m rem num st).2.length ≤ st.2.length + 1 := by
  rcases one_cases (m := m) (rem := rem) (num := num) st with e | ⟨v, hv, e, k⟩
  · rw [e]; omega
  · rw [e, List.length_append]; exact Nat.le_refl _
theorem inner_len {m rem : Nat} : ∀ (ns : List Nat) (st : Row × List Nat), (ns.foldl (fun st num => one m rem num st) st).2.length ≤ st.2.length + ns.length
  | [], st => Nat.le_refl _
  | a :: ns, st => by
    have := inner_len (m := m) (rem := rem) ns (one m rem a st)
    have := one_len (m := m) (rem := rem) (num := a) st
    show (ns.foldl _ (one m rem a st)).2.length ≤ _
    rw [List.length_cons]
    omega
theorem level_len {l : List Nat} {m : Nat} : ∀ (lev : List Nat) (st : Row × List Nat), (level m l lev st).2.length ≤ st.2.length + lev.length * l.length
  | [], st => by rw [List.length_nil, Nat.zero_mul]; exact Nat.le_refl _
  | a :: ns, st => by
    have h1 := level_len (l := l) (m := m) ns (inner m l a st)
    have h2 := inner_len (m := m) (rem := a) l st
    show (level m l ns (inner m l a st)).2.length ≤ _
    rw [List.length_cons, Nat.succ_mul]
    unfold inner at h1 ⊢
    omega
/-! the search ends -/
def cost : Row → Nat × Nat
  | [] => (0, 0)
  | none :: r => ((cost r).1 + 1, (cost r).2)
  | some v :: r => ((cost r).1, (cost r).2 + v)
def less (a b : Nat × Nat) : Prop := a.1 < b.1 ∨ (a.1 = b.1 ∧ a.2 < b.2)
theorem less_trans {a b c : Nat × Nat} (h : less a b) (g : less b c) : less a c := by
  unfold less at *
  omega
theorem less_wf : WellFounded less := by
  have : less = Prod.Lex (· < ·) (· < ·) := by
    funext a b
    apply propext
    unfold less
    constructor
    · rintro (h | ⟨h, g⟩)
      · exact Prod.lex_def.mpr (.inl h)
      · exact Prod.lex_def.mpr (.inr ⟨h, g⟩)
    · intro h
      rcases Prod.lex_def.mp h with h | ⟨h, g⟩
      · exact .inl h
      · exact .inr ⟨h, g⟩
  rw [this]
  exact (Prod.lex Nat.lt_wfRel Nat.lt_wfRel).wf
theorem cost_none : ∀ {row : Row} {p v : Nat}, row[p]? = some none → less (cost (row.set p (some v))) (cost row)
  | [], p, v, h => by simp at h
  | x :: r, 0, v, h => by
    simp at h
    subst h
    exact .inl (by show (cost r).1 < (cost r).1 + 1; omega)
  | x :: r, p + 1, v, h => by
    have := cost_none (row := r) (p := p) (v := v) (by simpa using h)
    rw [List.set_cons_succ]
    unfold less at *
    cases x <;> (unfold cost; dsimp only; omega)
theorem cost_some : ∀ {row : Row} {p v w : Nat}, row[p]? = some (some w) → v < w → less (cost (row.set p (some v))) (cost row)
  | [], p, v, w, h, _ => by simp at h
  | x :: r, 0, v, w, h, hl => by
    simp at h
    subst h
    exact .inr ⟨rfl, by show (cost r).2 + v < (cost r).2 + w; omega⟩
  | x :: r, p + 1, v, w, h, hl => by
    have := cost_some (row := r) (p := p) (v := v) (w := w) (by simpa using h) hl
    rw [List.set_cons_succ]
    unfold less at *
    cases x <;> (unfold cost; dsimp only; omega)
/-- no dearer, and cheaper where something is told again -/
def Falls (st st' : Row × List Nat) : Prop := st' = st ∨ less (cost st'.1) (cost st.1)
theorem one_falls {m rem num : Nat} (st : Row × List Nat) : Falls st (one m rem num st) := by
  rcases one_cases (m := m) (rem := rem) (num := num) st with e | ⟨v, hv, e, k⟩
  · exact .inl e
  · refine .inr ?_
    rw [e]
    rcases k with k | ⟨w, k, hlt⟩
    · exact cost_none k
    · exact cost_some k hlt
theorem Falls.trans {a b c : Row × List Nat} (h : Falls a b) (g : Falls b c) : Falls a c := by
  rcases h with rfl | h
  · exact g
  · rcases g with rfl | g
    · exact .inr h
    · exact .inr (less_trans g h)
theorem inner_falls {m rem : Nat} : ∀ (ns : List Nat) (st : Row × List Nat), Falls st (ns.foldl (fun st num => one m rem num st) st)
  | [], st => .inl rfl
  | a :: ns, st => (one_falls st).trans (inner_falls ns _)
theorem level_falls {l : List Nat} {m : Nat} : ∀ (lev : List Nat) (st : Row × List Nat), Falls st (level m l lev st)
  | [], st => .inl rfl
  | a :: ns, st => (inner_falls l st).trans (level_falls ns _)
theorem ends (m : Nat) (l : List Nat) : ∀ (st : Row × List Nat), ∃ N, (rounds m l N st).2 = [] := by
  intro st
  suffices h : ∀ c : Nat × Nat, ∀ st : Row × List Nat, cost st.1 = c → ∃ N, (rounds m l N st).2 = [] from h _ st rfl
  intro c
  induction c using less_wf.induction with
  | h c ih =>
    intro st hc
    by_cases h0 : st.2 = []
    · exact ⟨0, h0⟩
    · rcases level_falls (l := l) (m := m) st.2 (st.1, []) with e | h
      · refine ⟨1, ?_⟩
        show sortU m (level m l st.2 (st.1, [])).2 = []
        rw [e]
        unfold sortU
        simp
      · obtain ⟨N, hN⟩ := ih (cost (round m l st).1) (by rw [← hc]; exact h) (round m l st) rfl
        exact ⟨N + 1, hN⟩
theorem mem_sortU {m k : Nat} {xs : List Nat} (h : ∀ x ∈ xs, x < m) : k ∈ sortU m xs ↔ k ∈ xs := by
  unfold sortU
  rw [List.mem_filter, decide_eq_true_iff, List.mem_range]
  exact ⟨fun h => h.2, fun g => ⟨h k g, g⟩⟩
theorem sorted_ext : ∀ {xs ys : List Nat}, xs.Pairwise (· < ·) → ys.Pairwise (· < ·) → (∀ k, k ∈ xs ↔ k ∈ ys) → xs = ys
  | [], [], _, _, _ => rfl
  | [], y :: ys, _, _, h => by have := (h y).mpr List.mem_cons_self; cases this
  | x :: xs, [], _, _, h => by have := (h x).mp List.mem_cons_self; cases this
  | x :: xs, y :: ys, hx, hy, h => by
    rw [List.pairwise_cons] at hx hy
    have e : x = y := by
      have h1 := (h x).mp List.mem_cons_self
      have h2 := (h y).mpr List.mem_cons_self
      rcases List.mem_cons.mp h1 with h1 | h1
      · exact h1
      · rcases List.mem_cons.mp h2 with h2 | h2
        · exact h2.symm
        · have := hx.1 y h2
          have := hy.1 x h1
          omega
    subst e
    rw [sorted_ext hx.2 hy.2 fun k => ?_]
    constructor
    · intro hk
      rcases List.mem_cons.mp ((h k).mp (List.mem_cons_of_mem _ hk)) with e | e
      · have := hx.1 k hk
        omega
      · exact e
    · intro hk
      rcases List.mem_cons.mp ((h k).mpr (List.mem_cons_of_mem _ hk)) with e | e
      · have := hy.1 k hk
        omega
      · exact e
theorem sortU_sorted {m : Nat} {xs : List Nat} : (sortU m xs).Pairwise (· < ·) := List.Pairwise.filter _ List.pairwise_lt_range
/-- r has a value -/
def Dfd (row : Row) (r : Nat) : Prop := ∃ v, row[r]? = some (some v)
theorem one_dfd {m rem num : Nat} {st : Row × List Nat} {r : Nat} (h : Dfd st.1 r) : Dfd (one m rem num st).1 r := by
  rcases one_cases (m := m) (rem := rem) (num := num) st with e | ⟨v, hv, e, k⟩
  · rw [e]; exact h
  · rw [e]
    obtain ⟨w, hw⟩ := h
    show Dfd (st.1.set _ _) r
    unfold Dfd
    rw [List.getElem?_set]
    split
    · rename_i hp
      rw [hp, if_pos (List.getElem?_eq_some_iff.mp hw).1]
      exact ⟨_, rfl⟩
    · exact ⟨w, hw⟩
theorem one_dfd2 {m rem num : Nat} {st : Row × List Nat} (h : ∀ r ∈ st.2, Dfd st.1 r) : ∀ r ∈ (one m rem num st).2, Dfd (one m rem num st).1 r := by
  intro r hr
  rcases one_cases (m := m) (rem := rem) (num := num) st with e | ⟨v, hv, e, k⟩
  · rw [e] at hr ⊢
    exact h r hr
  · by_cases hr2 : r ∈ st.2
    · exact one_dfd (h r hr2)
    · rw [e] at hr ⊢
      rcases List.mem_append.mp hr with hr | hr
      · exact absurd hr hr2
      · cases List.mem_singleton.mp hr
        have hp : (v + num) % m < st.1.length := by
          rcases k with k | ⟨w, k, _⟩
          · exact (List.getElem?_eq_some_iff.mp k).1
          · exact (List.getElem?_eq_some_iff.mp k).1
        exact ⟨v + num, by show (st.1.set _ _)[_]? = _; rw [List.getElem?_set, if_pos rfl, if_pos hp]⟩
theorem inner_dfd {m rem : Nat} : ∀ (ns : List Nat) (st : Row × List Nat), (∀ r, Dfd st.1 r → Dfd (ns.foldl (fun st num => one m rem num st) st).1 r) ∧ ((∀ r ∈ st.2, Dfd st.1 r) → ∀ r ∈ (ns.foldl (fun st num => one m rem num st) st).2, Dfd (ns.foldl (fun st num => one m rem num st) st).1 r)
  | [], st => ⟨fun _ h => h, fun h => h⟩
  | a :: ns, st => by
    obtain ⟨h1, h2⟩ := inner_dfd (m := m) (rem := rem) ns (one m rem a st)
    exact ⟨fun r h => h1 r (one_dfd h), fun h => h2 (one_dfd2 h)⟩
theorem level_dfd {l : List Nat} {m : Nat} : ∀ (lev : List Nat) (st : Row × List Nat), (∀ r, Dfd st.1 r → Dfd (level m l lev st).1 r) ∧ ((∀ r ∈ st.2, Dfd st.1 r) → ∀ r ∈ (level m l lev st).2, Dfd (level m l lev st).1 r)
  | [], st => ⟨fun _ h => h, fun h => h⟩
  | a :: ns, st => by
    obtain ⟨h1, h2⟩ := level_dfd (l := l) (m := m) ns (inner m l a st)
    obtain ⟨g1, g2⟩ := inner_dfd (m := m) (rem := a) l st
    exact ⟨fun r h => h1 r (g1 r h), fun h => h2 (g2 h)⟩
theorem one_none {m rem a v : Nat} {st : Row × List Nat} (h : st.1[rem]? = some (some v)) (g : st.1[(v + a) % m]? = some none) : one m rem a st = (st.1.set ((v + a) % m) (some (v + a)), st.2 ++ [(v + a) % m]) := by
  unfold one
  rw [h]
  dsimp only
  rw [g]
theorem one_less {m rem a v w : Nat} {st : Row × List Nat} (h : st.1[rem]? = some (some v)) (g : st.1[(v + a) % m]? = some (some w)) (k : v + a < w) : one m rem a st = (st.1.set ((v + a) % m) (some (v + a)), st.2 ++ [(v + a) % m]) := by
  unfold one
  rw [h]
  dsimp only
  rw [g]
  dsimp only
  rw [if_pos k]
theorem one_skip {m rem a v w : Nat} {st : Row × List Nat} (h : st.1[rem]? = some (some v)) (g : st.1[(v + a) % m]? = some (some w)) (k : ¬ v + a < w) : one m rem a st = st := by
  unfold one
  rw [h]
  dsimp only
  rw [g]
  dsimp only
  rw [if_neg k]
/-- what holds of the state between the rounds -/
structure Inv (l : List Nat) (m : Nat) (st : Row × List Nat) : Prop where
  good : Good l m st.1
  dfd : ∀ r ∈ st.2, Dfd st.1 r
  lt : ∀ r ∈ st.2, r < m
  cl : ∀ r a, a ∈ l → G1 m st r a
  so : st.2.Pairwise (· < ·)
theorem round_inv {l : List Nat} {m : Nat} (hm : 0 < m) (hl : ∀ a ∈ l, 1 ≤ a) {st : Row × List Nat} (h : Inv l m st) : Inv l m (round m l st) := by
  obtain ⟨h1, h2, h3⟩ := level_ok hm hl st.2 (st.1, []) h.good
  have hlt := level_lt (l := l) hm st.2 (st.1, []) (fun r z => nomatch z)
  have hd := (level_dfd (l := l) (m := m) st.2 (st.1, [])).2 (fun r z => nomatch z)
  refine ⟨h1, fun r hr => hd r ((mem_sortU hlt).mp hr), fun r hr => (hlt r ((mem_sortU hlt).mp hr)), fun r a ha => ?_, sortU_sorted⟩
  have key : G1 m (level m l st.2 (st.1, [])) r a := by
    by_cases hr : r ∈ st.2
    · exact h3 r hr a ha
    · refine h2 r a (.inr ?_)
      rcases h.cl r a ha with z | z
      · exact absurd z hr
      · exact z
  rcases key with k | k
  · exact .inl ((mem_sortU hlt).mpr k)
  · exact .inr k
theorem inv_start {l : List Nat} {m : Nat} (hm : 0 < m) : Inv l m ((List.replicate m none).set 0 (some 0), [0]) := by
  refine ⟨⟨by simp, ?_, fun r v h => ?_⟩, fun r hr => ?_, fun r hr => ?_, fun r a ha => ?_, List.pairwise_singleton _ _⟩
  · rw [List.getElem?_set, if_pos rfl, List.length_replicate, if_pos hm]
  · rw [List.getElem?_set] at h
    split at h
    · rename_i hr
      rw [List.length_replicate, if_pos hm] at h
      cases h
      subst hr
      exact ⟨.zero, Nat.zero_mod _⟩
    · rw [List.getElem?_replicate] at h
      split at h <;> simp at h
  · cases List.mem_singleton.mp hr
    exact ⟨0, by
      show ((List.replicate m none).set 0 (some 0))[0]? = _
      rw [List.getElem?_set, if_pos rfl, List.length_replicate, if_pos hm]⟩
  · cases List.mem_singleton.mp hr
    exact hm
  · by_cases hr : r = 0
    · exact .inl (by rw [hr]; exact List.mem_cons_self)
    · refine .inr fun v h => ?_
      rw [List.getElem?_set, if_neg (Ne.symm hr), List.getElem?_replicate] at h
      split at h <;> simp at h
theorem inv_row {l : List Nat} {m : Nat} (hm : 0 < m) {row : Row} (h : Inv l m (row, [])) : IsRow l m row := by
  have reach : ∀ n, Sm l n → ∃ w, row[n % m]? = some (some w) ∧ w ≤ n := by
    intro n hn
    induction hn with
    | zero => exact ⟨0, by rw [Nat.zero_mod]; exact h.good.zero, Nat.le_refl _⟩
    | @add n a ha _ ih =>
      obtain ⟨w, hw, hle⟩ := ih
      rcases h.cl (n % m) a ha with z | z
      · cases z
      · obtain ⟨u, hu, hle2⟩ := z w hw
        refine ⟨u, ?_, by omega⟩
        have e := (h.good.val _ _ hw).2
        have e2 : (w + a) % m = (n + a) % m := by rw [Nat.add_mod, e, ← Nat.add_mod]
        rw [← e2]
        exact hu
  refine ⟨h.good.len, fun r hr => ?_⟩
  rcases e : row[r]? with _ | _ | v
  · rw [List.getElem?_eq_none_iff, h.good.len] at e
    omega
  · refine .inr ⟨rfl, fun n hn hr2 => ?_⟩
    obtain ⟨w, hw, _⟩ := reach n hn
    rw [hr2, e] at hw
    cases hw
  · obtain ⟨g1, g2⟩ := h.good.val r v e
    refine .inl ⟨v, rfl, g1, g2, fun n hn hr2 => ?_⟩
    obtain ⟨w, hw, hle⟩ := reach n hn
    rw [hr2, e] at hw
    cases hw
    exact hle
end MS

namespace MS
theorem bezout : ∀ (m n : Nat), ∃ u v : Int, u * m + v * n = (Nat.gcd m n : Nat) := by
  intro m n
  induction m, n using Nat.gcd.induction with
  | H0 n => exact ⟨0, 1, by simp⟩
  | H1 m n hm ih =>
    obtain ⟨u, v, h⟩ := ih
    refine ⟨v - u * ((n / m : Nat) : Int), u, ?_⟩
    rw [Nat.gcd_rec m n, ← h]
    have e : (n : Int) = (m : Int) * ((n / m : Nat) : Int) + ((n % m : Nat) : Int) := by
      have := Nat.div_add_mod n m
      have h2 : (n : Int) = ((m * (n / m) + n % m : Nat) : Int) := by rw [this]
      rw [Int.natCast_add, Int.natCast_mul] at h2
      exact h2
    have e2 : u * (n : Int) = u * ((m : Int) * ((n / m : Nat) : Int)) + u * ((n % m : Nat) : Int) := by rw [← Int.mul_add, ← e]
    have e3 : u * ((n / m : Nat) : Int) * (m : Int) = u * ((m : Int) * ((n / m : Nat) : Int)) := by rw [Int.mul_assoc, Int.mul_comm ((n / m : Nat) : Int)]
    rw [Int.sub_mul, e3, e2]
    omega
def gcdL (l : List Nat) : Nat := l.foldr Nat.gcd 0
theorem gcdL_dvd : ∀ {l : List Nat} {a : Nat}, a ∈ l → gcdL l ∣ a
  | b :: l, a, h => by
    rcases List.mem_cons.mp h with rfl | h
    · exact Nat.gcd_dvd_left _ _
    · exact Nat.dvd_trans (Nat.gcd_dvd_right _ _) (gcdL_dvd h)
theorem dvd_gcdL : ∀ {l : List Nat} {d : Nat}, (∀ a ∈ l, d ∣ a) → d ∣ gcdL l
  | [], d, _ => Nat.dvd_zero _
  | b :: l, d, h => Nat.dvd_gcd (h b List.mem_cons_self) (dvd_gcdL fun a ha => h a (List.mem_cons_of_mem _ ha))
theorem sm_gcd {m : Nat} (hm : 0 < m) : ∀ l : List Nat, ∃ N, Sm l N ∧ N % m = gcdL l % m
  | [] => ⟨0, .zero, rfl⟩
  | a :: l => by
    obtain ⟨N0, h1, h2⟩ := sm_gcd hm l
    obtain ⟨u, v, h3⟩ := bezout a (gcdL l)
    have hu := Int.emod_nonneg u (show (m : Int) ≠ 0 by omega)
    have hv := Int.emod_nonneg v (show (m : Int) ≠ 0 by omega)
    refine ⟨(u % m).toNat * a + (v % m).toNat * N0, (Sm.mul _ (.one List.mem_cons_self)).plus (Sm.mul _ (h1.mono fun _ h => List.mem_cons_of_mem _ h)), ?_⟩
    have e : (((u % m).toNat * a + (v % m).toNat * N0 : Nat) : Int) % m = ((gcdL (a :: l) : Nat) : Int) % m := by
      rw [show ((gcdL (a :: l) : Nat) : Int) = u * a + v * (gcdL l : Nat) from h3.symm, Int.natCast_add, Int.natCast_mul, Int.natCast_mul, Int.toNat_of_nonneg hu, Int.toNat_of_nonneg hv]
      have e2 : (N0 : Int) % m = ((gcdL l : Nat) : Int) % m := by
        rw [← Int.natCast_emod, ← Int.natCast_emod, h2]
      rw [Int.add_emod, Int.mul_emod (u % m), Int.emod_emod, ← Int.mul_emod, Int.mul_emod (v % m), Int.emod_emod, e2, ← Int.mul_emod, ← Int.add_emod]
    rw [← Int.natCast_emod, ← Int.natCast_emod] at e
    omega
def tot : List Nat → Nat
  | [] => 0
  | a :: l => a + tot l
theorem tot_app : ∀ l k : List Nat, tot (l ++ k) = tot l + tot k
  | [], k => by simp [tot]
  | a :: l, k => by
    show a + tot (l ++ k) = a + tot l + tot k
    rw [tot_app l k, Nat.add_assoc]
theorem tot_le {A : Nat} : ∀ {l : List Nat}, (∀ a ∈ l, a ≤ A) → tot l ≤ l.length * A
  | [], _ => Nat.zero_le _
  | a :: l, h => by
    have := tot_le (l := l) fun b hb => h b (List.mem_cons_of_mem _ hb)
    have := h a List.mem_cons_self
    rw [List.length_cons, Nat.succ_mul]
    show a + tot l ≤ _
    omega
theorem sm_list {l : List Nat} {n : Nat} : Sm l n ↔ ∃ ms : List Nat, (∀ x ∈ ms, x ∈ l) ∧ tot ms = n := by
  constructor
  · intro h
    induction h with
    | zero => exact ⟨[], (fun _ h => nomatch h), rfl⟩
    | @add n a ha _ ih =>
      obtain ⟨ms, h1, h2⟩ := ih
      refine ⟨a :: ms, fun x hx => ?_, by rw [← h2, Nat.add_comm]; rfl⟩
      rcases List.mem_cons.mp hx with rfl | hx
      · exact ha
      · exact h1 x hx
  · rintro ⟨ms, h1, rfl⟩
    induction ms with
    | nil => exact .zero
    | cons a ms ih =>
      show Sm l (a + tot ms)
      rw [Nat.add_comm]
      exact .add (h1 a List.mem_cons_self) (ih fun x hx => h1 x (List.mem_cons_of_mem _ hx))
theorem nodup_len {α : Type} : ∀ {l D : List α}, l.Nodup → (∀ x ∈ l, x ∈ D) → l.length ≤ D.length
  | [], _, _, _ => Nat.zero_le _
  | a :: l, D, h, s => by
    rw [List.nodup_cons] at h
    obtain ⟨D1, D2, rfl⟩ := List.append_of_mem (s a List.mem_cons_self)
    have := nodup_len (l := l) (D := D1 ++ D2) h.2 fun x hx => by
      have h1 := s x (List.mem_cons_of_mem _ hx)
      have h2 : x ≠ a := fun e => h.1 (by rw [← e]; exact hx)
      simp only [List.mem_append, List.mem_cons] at h1 ⊢
      rcases h1 with h1 | h1 | h1
      · exact .inl h1
      · exact absurd h1 h2
      · exact .inr h1
    simp only [List.length_append, List.length_cons] at this ⊢
    omega
/-- two of m + 1 numbers below m are one -/
theorem holes {m : Nat} (f : Nat → Nat) (h : ∀ i, i ≤ m → f i < m) : ∃ i j, i < j ∧ j ≤ m ∧ f i = f j := by
  apply Classical.byContradiction
  intro hc
  have nd : ((List.range (m + 1)).map f).Nodup := by
    rw [List.Nodup, List.pairwise_map, List.pairwise_iff_getElem]
    intro i j hi hj hij e
    rw [List.getElem_range, List.getElem_range] at e
    rw [List.length_range] at hj
    exact hc ⟨i, j, hij, by omega, e⟩
  have := nodup_len nd (D := List.range m) fun x hx => by
    obtain ⟨i, hi, rfl⟩ := List.mem_map.mp hx
    rw [List.mem_range] at hi ⊢
    exact h i (by omega)
  rw [List.length_map, List.length_range, List.length_range] at this
  omega
theorem tot_take (ms : List Nat) (i : Nat) : tot ms = tot (ms.take i) + tot (ms.drop i) := by rw [← tot_app, List.take_append_drop]
/-- a sum of fewer than m members, of the same remainder -/
theorem sm_short {l : List Nat} {m A : Nat} (hm : 0 < m) (hA : ∀ a ∈ l, a ≤ A) : ∀ (k : Nat) (ms : List Nat), ms.length ≤ k → (∀ x ∈ ms, x ∈ l) → ∃ n, Sm l n ∧ n % m = tot ms % m ∧ n ≤ tot ms ∧ n ≤ (m - 1) * A := by
  intro k
  induction k with
  | zero =>
    intro ms hk hs
    have : ms = [] := List.length_eq_zero_iff.mp (by omega)
    subst this
    exact ⟨0, .zero, rfl, Nat.le_refl _, Nat.zero_le _⟩
  | succ k ih =>
    intro ms hk hs
    by_cases hl : ms.length < m
    · refine ⟨tot ms, sm_list.mpr ⟨ms, hs, rfl⟩, rfl, Nat.le_refl _, Nat.le_trans (tot_le fun a ha => hA a (hs a ha)) (Nat.mul_le_mul_right _ (by omega))⟩
    · obtain ⟨i, j, hij, hj, e⟩ := holes (m := m) (fun i => tot (ms.take i) % m) fun i _ => Nat.mod_lt _ hm
      obtain ⟨n, h1, h2, h3, h4⟩ := ih (ms.take i ++ ms.drop j) (by
        rw [List.length_append, List.length_take, List.length_drop]
        omega) fun x hx => by
          rcases List.mem_append.mp hx with hx | hx
          · exact hs x (List.mem_of_mem_take hx)
          · exact hs x (List.mem_of_mem_drop hx)
      have e1 : tot (ms.take i ++ ms.drop j) % m = tot ms % m := by
        rw [tot_app, tot_take ms j, Nat.add_mod, Nat.add_mod (tot (ms.take j))]
        rw [e]
      refine ⟨n, h1, h2.trans e1, Nat.le_trans h3 ?_, h4⟩
      have t1 := tot_take (ms.take j) i
      have t2 := tot_take ms j
      rw [List.take_take, Nat.min_eq_left (by omega)] at t1
      rw [tot_app]
      omega
theorem sm_low {l : List Nat} {m A n : Nat} (hm : 0 < m) (hA : ∀ a ∈ l, a ≤ A) (h : Sm l n) : ∃ k, Sm l k ∧ k % m = n % m ∧ k ≤ n ∧ k ≤ (m - 1) * A := by
  obtain ⟨ms, h1, rfl⟩ := sm_list.mp h
  exact sm_short hm hA ms.length ms (Nat.le_refl _) h1
/-- every remainder is met -/
theorem sm_all {l : List Nat} {m r : Nat} (hm : 0 < m) (hg : gcdL l = 1) (hr : r < m) : ∃ n, Sm l n ∧ n % m = r := by
  obtain ⟨N, h1, h2⟩ := sm_gcd hm l
  rw [hg] at h2
  refine ⟨r * N, h1.mul r, ?_⟩
  rw [Nat.mul_mod, h2, ← Nat.mul_mod, Nat.mul_one, Nat.mod_eq_of_lt hr]
theorem sm_up {l : List Nat} {m k n : Nat} (hm : m ∈ l) (h : Sm l k) (hk : k ≤ n) (e : k % m = n % m) : Sm l n := by
  have h2 : n = k + (n / m - k / m) * m := by
    have a1 := Nat.div_add_mod n m
    have a2 := Nat.div_add_mod k m
    have a3 : k / m ≤ n / m := Nat.div_le_div_right hk
    rw [Nat.sub_mul, Nat.mul_comm (n / m), Nat.mul_comm (k / m)]
    have a4 : m * (k / m) ≤ m * (n / m) := Nat.mul_le_mul_left _ a3
    omega
  rw [h2]
  exact h.plus (Sm.mul _ (.one hm))
/-- all from (m - 1) * A on -/
theorem sm_big {l : List Nat} {m A n : Nat} (hm : m ∈ l) (h0 : 0 < m) (hA : ∀ a ∈ l, a ≤ A) (hg : gcdL l = 1) (hn : (m - 1) * A ≤ n) : Sm l n := by
  obtain ⟨k, h1, h2⟩ := sm_all (r := n % m) h0 hg (Nat.mod_lt _ h0)
  obtain ⟨j, g1, g2, _, g4⟩ := sm_low h0 hA h1
  exact sm_up hm g1 (by omega) (g2.trans h2)
/-! ### bases -/
structure Base (l : List Nat) : Prop where
  ne : l ≠ []
  pos : ∀ a ∈ l, 1 ≤ a
  so : l.Pairwise (· < ·)
  gcd : gcdL l = 1
  min : ∀ i a, l[i]? = some a → ¬ Sm (l.take i) a
/-- the first member -/
def hd (l : List Nat) : Nat := l.headD 0
theorem hd_mem {l : List Nat} (h : l ≠ []) : hd l ∈ l := by
  cases l with
  | nil => exact absurd rfl h
  | cons a l => exact List.mem_cons_self
theorem Base.hd_le {l : List Nat} (b : Base l) : ∀ a ∈ l, hd l ≤ a := by
  intro a ha
  have so := b.so
  cases l with
  | nil => cases ha
  | cons c l =>
    rw [List.pairwise_cons] at so
    rcases List.mem_cons.mp ha with rfl | ha
    · exact Nat.le_refl _
    · exact Nat.le_of_lt (so.1 a ha)
theorem Base.hd_pos {l : List Nat} (b : Base l) : 1 ≤ hd l := b.pos _ (hd_mem b.ne)
/-- the last member -/
def lst (l : List Nat) : Nat := l.getLastD 0
theorem so_last : ∀ {l : List Nat}, l.Pairwise (· < ·) → ∀ a ∈ l, a ≤ lst l
  | [], _, a, h => nomatch h
  | [b], _, a, h => by cases List.mem_singleton.mp h; exact Nat.le_refl _
  | b :: c :: l, h, a, ha => by
    rw [List.pairwise_cons] at h
    have ih := so_last h.2
    have e : lst (b :: c :: l) = lst (c :: l) := by unfold lst; rw [List.getLastD_cons, List.getLastD_cons, List.getLastD_cons]
    rw [e]
    rcases List.mem_cons.mp ha with rfl | ha
    · exact Nat.le_trans (Nat.le_of_lt (h.1 c List.mem_cons_self)) (ih c List.mem_cons_self)
    · exact ih a ha
/-- a full row -/
def RowN (l : List Nat) (m : Nat) (row : List Nat) : Prop := row.length = m ∧ ∀ r, r < m → ∃ v, row[r]? = some v ∧ Sm l v ∧ v % m = r ∧ ∀ n, Sm l n → n % m = r → v ≤ n
theorem row_full {l : List Nat} {m : Nat} {row : Row} (hm : 0 < m) (hg : gcdL l = 1) (h : IsRow l m row) : ∃ rn : List Nat, row = rn.map some ∧ RowN l m rn := by
  refine ⟨row.map (·.getD 0), ?_, by rw [List.length_map]; exact h.1, fun r hr => ?_⟩
  · rw [List.map_map]
    apply List.ext_getElem?
    intro i
    rw [List.getElem?_map]
    by_cases hi : i < m
    · rcases h.2 i hi with ⟨v, e, _⟩ | ⟨e, h2⟩
      · rw [e]; rfl
      · obtain ⟨n, h3, h4⟩ := sm_all hm hg hi
        exact absurd h4 (h2 n h3)
    · rw [List.getElem?_eq_none (by rw [h.1]; omega)]; rfl
  · rcases h.2 r hr with ⟨v, e, h2⟩ | ⟨e, h2⟩
    · exact ⟨v, by rw [List.getElem?_map, e]; rfl, h2⟩
    · obtain ⟨n, h3, h4⟩ := sm_all hm hg hr
      exact absurd h4 (h2 n h3)
theorem RowN.iff {l : List Nat} {m : Nat} {row : List Nat} (h : RowN l m row) (hm : m ∈ l) (h0 : 0 < m) (n : Nat) : ∃ v, row[n % m]? = some v ∧ (v ≤ n ↔ Sm l n) := by
  obtain ⟨v, e, h1, h2, h3⟩ := h.2 (n % m) (Nat.mod_lt _ h0)
  exact ⟨v, e, fun hv => sm_up hm h1 hv h2, fun hs => h3 n hs rfl⟩
theorem RowN.le {l : List Nat} {m A : Nat} {row : List Nat} (h : RowN l m row) (h0 : 0 < m) (hA : ∀ a ∈ l, a ≤ A) : ∀ v ∈ row, v ≤ (m - 1) * A := by
  intro v hv
  obtain ⟨r, hr, e⟩ := List.mem_iff_getElem.mp hv
  have hr2 : r < m := by rw [← h.1]; exact hr
  obtain ⟨u, e2, h1, h2, h3⟩ := h.2 r hr2
  rw [List.getElem?_eq_getElem hr, e] at e2
  cases e2
  obtain ⟨k, g1, g2, _, g4⟩ := sm_low h0 hA h1
  have := h3 k g1 (by rw [g2, h2])
  omega
/-- the greatest gap told by a row: v the greatest of the row -/
theorem top_is {l : List Nat} {m v : Nat} {row : List Nat} (b : Base l) (em : m = hd l) (h : RowN l m row) (hv : v ∈ row) (hx : ∀ u ∈ row, u ≤ v) :
    (∀ n : Nat, (v : Int) - m < n → Sm l n) ∧ (∀ n : Nat, (v : Int) - m = n → ¬ Sm l n) ∧ -1 ≤ (v : Int) - m := by
  have hm : m ∈ l := em ▸ hd_mem b.ne
  have h0 : 0 < m := em ▸ b.hd_pos
  refine ⟨fun n hn => ?_, fun n hn hs => ?_, ?_⟩
  · obtain ⟨u, e, h1⟩ := h.iff hm h0 n
    have hu := hx u (List.mem_of_getElem? e)
    by_cases hle : u ≤ n
    · exact h1.mp hle
    · obtain ⟨u2, e2, g1, g2, _⟩ := h.2 (n % m) (Nat.mod_lt _ h0)
      rw [e] at e2
      cases e2
      exfalso
      have a1 := Nat.div_add_mod n m
      have a2 := Nat.div_add_mod u m
      have a3 : n / m < u / m := by
        apply Classical.byContradiction
        intro hc
        have := Nat.mul_le_mul_left m (Nat.le_of_not_lt hc)
        omega
      have a4 : m * (n / m + 1) ≤ m * (u / m) := Nat.mul_le_mul_left m a3
      rw [Nat.mul_add, Nat.mul_one] at a4
      omega
  · obtain ⟨r, hr, e⟩ := List.mem_iff_getElem.mp hv
    obtain ⟨u, e2, g1, g2, g3⟩ := h.2 r (by rw [← h.1]; exact hr)
    rw [List.getElem?_eq_getElem hr, e] at e2
    cases e2
    have e3 : v = n + m := by omega
    have := g3 n hs (by rw [← g2, e3, Nat.add_mod_right])
    omega
  · by_cases h1 : m = 1
    · omega
    · obtain ⟨u, e2, g1, g2, g3⟩ := h.2 1 (by omega)
      have hu := hx u (List.mem_of_getElem? e2)
      have : m ≤ u := by
        cases g1 with
        | zero => rw [Nat.zero_mod] at g2; omega
        | add ha _ =>
          have := b.hd_le _ ha
          omega
      omega
/-! ### the gaps -/
noncomputable def gapsN (l : List Nat) (K : Nat) : List Nat := (List.range K).filter fun n => !smb l n
theorem gapsN_eq {l : List Nat} {K K' : Nat} (h : ∀ n, K ≤ n → Sm l n) (hk : K ≤ K') : gapsN l K' = gapsN l K := by
  obtain ⟨d, rfl⟩ : ∃ d, K' = K + d := ⟨K' - K, by omega⟩
  clear hk
  induction d with
  | zero => rfl
  | succ d ih =>
    unfold gapsN at ih ⊢
    rw [← Nat.add_assoc, List.range_succ, List.filter_append, ih, List.filter_cons_of_neg, List.filter_nil, List.append_nil]
    simp [smb_iff.mpr (h (K + d) (by omega))]
end MS
namespace MS
/-! ### sums decided -/
def smC : List Nat → Nat → Bool
  | [], n => n == 0
  | a :: l, n => (List.range (n + 1)).any fun k => decide (k * a ≤ n) && smC l (n - k * a)
theorem sm_cons {a n : Nat} {l : List Nat} (h : Sm (a :: l) n) : ∃ k, k * a ≤ n ∧ Sm l (n - k * a) := by
  induction h with
  | zero => exact ⟨0, by omega, by rw [Nat.zero_mul]; exact .zero⟩
  | @add n b hb _ ih =>
    obtain ⟨k, h1, h2⟩ := ih
    rcases List.mem_cons.mp hb with rfl | hb
    · exact ⟨k + 1, by rw [Nat.succ_mul]; omega, by rw [Nat.succ_mul, Nat.add_sub_add_right]; exact h2⟩
    · refine ⟨k, by omega, ?_⟩
      rw [show n + b - k * a = (n - k * a) + b by omega]
      exact .add hb h2
theorem smC_of : ∀ {l : List Nat} {n : Nat}, (∀ a ∈ l, 1 ≤ a) → Sm l n → smC l n = true
  | [], n, _, h => by rw [sm_nil.mp h]; rfl
  | a :: l, n, hp, h => by
    obtain ⟨k, h1, h2⟩ := sm_cons h
    unfold smC
    rw [List.any_eq_true]
    have ha := hp a List.mem_cons_self
    have hk : k ≤ n := Nat.le_trans (by have := Nat.mul_le_mul_left k ha; omega) h1
    refine ⟨k, List.mem_range.mpr (by omega), ?_⟩
    rw [decide_eq_true h1, smC_of (fun b hb => hp b (List.mem_cons_of_mem _ hb)) h2]
    rfl
def checkB (l : List Nat) : Bool := decide (l ≠ []) && l.all (fun a => decide (1 ≤ a)) && decide (l.Pairwise (· < ·)) && decide (gcdL l = 1) && (List.range l.length).all (fun i => !smC (l.take i) (l.getD i 0))
theorem Base.ofC {l : List Nat} (h : checkB l = true) : Base l := by
  unfold checkB at h
  simp only [Bool.and_eq_true, decide_eq_true_eq, List.all_eq_true, List.mem_range, Bool.not_eq_eq_eq_not, Bool.not_true] at h
  obtain ⟨⟨⟨⟨h1, h2⟩, h3⟩, h4⟩, h5⟩ := h
  refine ⟨h1, h2, h3, h4, fun i a e hs => ?_⟩
  have hi := (List.getElem?_eq_some_iff.mp e).1
  have := h5 i hi
  rw [List.getD_eq_getElem?_getD, e, Option.getD_some, smC_of (fun b hb => h2 b (List.mem_of_mem_take hb)) hs] at this
  cases this
/-! ### the base of some numbers -/
structure BaseOf (ns l : List Nat) : Prop where
  so : l.Pairwise (· < ·)
  sub : ∀ a ∈ l, a ∈ ns
  all : ∀ a ∈ ns, Sm l a
  min : ∀ i a, l[i]? = some a → ¬ Sm (l.take i) a
theorem baseOf_nil : BaseOf [] [] := ⟨.nil, (fun _ h => nomatch h), (fun _ h => nomatch h), (fun i a h => nomatch h)⟩
theorem BaseOf.skip {ns l : List Nat} {a : Nat} (h : BaseOf ns l) (hs : Sm l a) : BaseOf (ns ++ [a]) l :=
  ⟨h.so, fun b hb => List.mem_append_left _ (h.sub b hb), fun b hb => by
    rcases List.mem_append.mp hb with hb | hb
    · exact h.all b hb
    · cases List.mem_singleton.mp hb
      exact hs, h.min⟩
theorem BaseOf.more {ns l : List Nat} {a : Nat} (h : BaseOf ns l) (hs : ¬ Sm l a) (hl : ∀ b ∈ ns, b < a) : BaseOf (ns ++ [a]) (l ++ [a]) := by
  refine ⟨?_, fun b hb => ?_, fun b hb => ?_, fun i b e => ?_⟩
  · rw [List.pairwise_append]
    exact ⟨h.so, List.pairwise_singleton _ _, fun b hb c hc => by
      cases List.mem_singleton.mp hc
      exact hl b (h.sub b hb)⟩
  · rcases List.mem_append.mp hb with hb | hb
    · exact List.mem_append_left _ (h.sub b hb)
    · exact List.mem_append_right _ hb
  · rcases List.mem_append.mp hb with hb | hb
    · exact (h.all b hb).mono fun c hc => List.mem_append_left _ hc
    · exact .one (List.mem_append_right _ hb)
  · by_cases hi : i < l.length
    · rw [List.getElem?_append_left hi] at e
      rw [List.take_append_of_le_length (by omega)]
      exact h.min i b e
    · rw [List.getElem?_append_right (by omega)] at e
      have hi2 : i - l.length = 0 := by
        have := (List.getElem?_eq_some_iff.mp e).1
        simp at this
        omega
      rw [hi2] at e
      cases e
      rw [show i = l.length by omega, List.take_left']
      · exact hs
      · rfl
theorem BaseOf.congr {ns ns' l : List Nat} (h : BaseOf ns l) (e : ∀ a, a ∈ ns ↔ a ∈ ns') : BaseOf ns' l :=
  ⟨h.so, fun a ha => (e a).mp (h.sub a ha), fun a ha => h.all a ((e a).mpr ha), h.min⟩
theorem BaseOf.base {ns l : List Nat} (h : BaseOf ns l) (h1 : ∀ a ∈ ns, 1 ≤ a) (hn : ns ≠ []) (hg : gcdL ns = 1) : Base l := by
  refine ⟨fun e => ?_, fun a ha => h1 a (h.sub a ha), h.so, ?_, h.min⟩
  · subst e
    cases ns with
    | nil => exact hn rfl
    | cons a ns =>
      have := sm_nil.mp (h.all a List.mem_cons_self)
      have := h1 a List.mem_cons_self
      omega
  · have : gcdL l ∣ gcdL ns := dvd_gcdL fun a ha => sm_dvd (fun b hb => gcdL_dvd hb) (h.all a ha)
    rw [hg] at this
    exact Nat.dvd_one.mp this
theorem BaseOf.len {ns l : List Nat} (h : BaseOf ns l) : l.length ≤ ns.length := nodup_len (h.so.imp fun z => Nat.ne_of_lt z) h.sub
/-- the one base -/
theorem BaseOf.uniq {ns ns' l l' : List Nat} (h : BaseOf ns l) (h' : BaseOf ns' l') (e : ∀ n, Sm l n ↔ Sm l' n) (hp : ∀ a ∈ l, 1 ≤ a) (hp' : ∀ a ∈ l', 1 ≤ a) : l = l' := by
  have key : ∀ {l l' : List Nat} {ns ns' : List Nat}, BaseOf ns l → BaseOf ns' l' → (∀ n, Sm l n ↔ Sm l' n) → (∀ a ∈ l, 1 ≤ a) → (∀ a ∈ l', 1 ≤ a) → ∀ a ∈ l, a ∈ l' := by
    intro l l' ns ns' h h' e hp hp' a ha
    apply Classical.byContradiction
    intro hn
    -- a is a sum of members of l', each below a, so of members of l below a
    have small : ∀ n, Sm l' n → n ≤ a → Sm (l.filter (fun b => decide (b < a))) n := by
      intro n hs
      induction hs with
      | zero => intro _; exact .zero
      | @add n b hb g ih =>
        intro hle
        refine (ih (by omega)).plus ?_
        have hb1 := hp' b hb
        have hba : b < a := by
          have : b ≠ a := fun z => hn (z ▸ hb)
          omega
        have hsb : Sm l b := (e b).mpr (.one hb)
        have low : ∀ k, Sm l k → k < a → Sm (l.filter (fun b => decide (b < a))) k := by
          intro k hk
          induction hk with
          | zero => intro _; exact .zero
          | @add k c hc _ ihk =>
            intro hlt
            exact .add (List.mem_filter.mpr ⟨hc, decide_eq_true (by omega)⟩) (ihk (by omega))
        exact low b hsb hba
    have h1 := small a ((e a).mp (.one ha)) (Nat.le_refl _)
    obtain ⟨i, hi, ei⟩ := List.mem_iff_getElem.mp ha
    refine h.min i a (by rw [List.getElem?_eq_getElem hi, ei]) (h1.mono fun b hb => ?_)
    obtain ⟨hb1, hb2⟩ := List.mem_filter.mp hb
    have hb2 := of_decide_eq_true hb2
    obtain ⟨j, hj, ej⟩ := List.mem_iff_getElem.mp hb1
    have hji : j < i := by
      apply Classical.byContradiction
      intro hc
      rcases Nat.lt_or_eq_of_le (Nat.le_of_not_lt hc) with hc | hc
      · have := List.pairwise_iff_getElem.mp h.so i j hi hj hc
        omega
      · subst hc
        omega
    rw [← ej]
    exact List.mem_iff_getElem.mpr ⟨j, by rw [List.length_take]; omega, by rw [List.getElem_take]⟩
  exact sorted_ext h.so h'.so fun k => ⟨key h h' e hp hp' k, key h' h (fun n => (e n).symm) hp' hp k⟩
theorem Base.of {l : List Nat} (b : Base l) : BaseOf l l := ⟨b.so, fun _ h => h, fun _ h => .one h, b.min⟩
/-! ### the greatest gap -/
structure IsTop (l : List Nat) (g : Int) : Prop where
  up : ∀ n : Nat, g < n → Sm l n
  no : ∀ n : Nat, g = n → ¬ Sm l n
  lo : -1 ≤ g
theorem IsTop.uniq {l : List Nat} {g g' : Int} (h : IsTop l g) (h' : IsTop l g') : g = g' := by
  have key : ∀ {g g' : Int}, IsTop l g → IsTop l g' → ¬ g < g' := fun {g g'} h h' hlt => by
    have := h.lo
    obtain ⟨n, hn⟩ := Int.eq_ofNat_of_zero_le (show 0 ≤ g' by omega)
    exact h'.no n hn (h.up n (by omega))
  have := key h h'
  have := key h' h
  omega
theorem gaps_same {l : List Nat} {K K' : Nat} (h : ∀ n, K ≤ n → Sm l n) (h' : ∀ n, K' ≤ n → Sm l n) : gapsN l K = gapsN l K' := by
  rcases Nat.le_total K K' with hk | hk
  · exact (gapsN_eq h hk).symm
  · exact gapsN_eq h' hk
/-- the gaps -/
noncomputable def gapsL (l : List Nat) : List Nat := gapsN l (hd l * lst l)
theorem Base.big {l : List Nat} (b : Base l) {n : Nat} (h : hd l * lst l ≤ n) : Sm l n :=
  sm_big (hd_mem b.ne) b.hd_pos (so_last b.so) b.gcd (Nat.le_trans (Nat.mul_le_mul_right _ (Nat.sub_le _ _)) h)
theorem Base.gaps {l : List Nat} (b : Base l) {K : Nat} (h : ∀ n, K ≤ n → Sm l n) : gapsN l K = gapsL l := gaps_same h fun n hn => b.big hn
theorem mem_gapsL {l : List Nat} (b : Base l) {n : Nat} : n ∈ gapsL l ↔ ¬ Sm l n := by
  unfold gapsL gapsN
  rw [List.mem_filter, List.mem_range]
  constructor
  · rintro ⟨_, h⟩ hs
    rw [smb_iff.mpr hs] at h
    cases h
  · intro h
    refine ⟨Nat.lt_of_not_le fun z => h (b.big z), ?_⟩
    rw [smb_no.mpr h]
    rfl
/-- the row's greatest, less the first member -/
theorem top_row {l : List Nat} {v : Nat} {row : List Nat} (b : Base l) (h : RowN l (hd l) row) (hv : v ∈ row) (hx : ∀ u ∈ row, u ≤ v) : IsTop l ((v : Int) - hd l) := by
  obtain ⟨h1, h2, h3⟩ := top_is b rfl h hv hx
  exact ⟨h1, h2, h3⟩
theorem IsTop.lt {l : List Nat} {g : Int} (b : Base l) (h : IsTop l g) : g < hd l * lst l := by
  apply Classical.byContradiction
  intro hc
  obtain ⟨n, hn⟩ := Int.eq_ofNat_of_zero_le (show 0 ≤ g by
    have : (0 : Int) ≤ (hd l : Int) * lst l := by
      rw [← Int.natCast_mul]
      omega
    omega)
  refine h.no n hn (b.big ?_)
  have : ((hd l * lst l : Nat) : Int) ≤ g := by rw [Int.natCast_mul]; omega
  omega
/-- gaps by a walk from 1 to the greatest -/
theorem gaps_walk {l : List Nat} {g : Int} (b : Base l) (h : IsTop l g) : ((List.range g.toNat).map (· + 1)).filter (fun n => !smb l n) = gapsL l := by
  rw [← b.gaps (K := g.toNat + 1) fun n hn => h.up n (by omega)]
  unfold gapsN
  rw [List.range_succ_eq_map, List.filter_cons_of_neg]
  simp [smb_iff.mpr Sm.zero]
end MS

namespace G
open PySem L2 RT PySem.Spec PyProof.Rows MS
abbrev pN (l : List Nat) : List PyData := l.map fun (n : Nat) => PyData.int (n : Int)
theorem pN_inj : ∀ {l k : List Nat}, pN l = pN k → l = k
  | [], [], _ => rfl
  | [], _ :: _, h => by simp at h
  | _ :: _, [], h => by simp at h
  | a :: l, b :: k, h => by
    simp only [pN, List.map_cons, List.cons.injEq, PyData.int.injEq] at h
    rw [show a = b by omega, pN_inj h.2]
def IntsD (x : SV) (l : List Nat) : Prop := x = .d (.tuple (pN l)) ∨ x = .d (.list (pN l))
theorem IntsD.inj {x : SV} {l k : List Nat} (h : IntsD x l) (g : IntsD x k) : l = k := by
  rcases h with h | h <;> rcases g with g | g <;> rw [h] at g
  · exact pN_inj (by simpa using g)
  · cases g
  · cases g
  · exact pN_inj (by simpa using g)
def oD : Option Nat → SV
  | none => dN
  | some v => dI v
/-- sorted(set(..)) of places -/
theorem sortU_is {m : Nat} {xs : List Nat} {out : List Int} (hm : ∀ x ∈ xs, x < m) (h1 : out.Pairwise (· < ·)) (h2 : ∀ k, k ∈ out ↔ k ∈ xs.map fun (n : Nat) => (n : Int)) : out = (sortU m xs).map fun (n : Nat) => (n : Int) := by
  have nn : ∀ k ∈ out, 0 ≤ k := fun k hk => by
    obtain ⟨n, _, rfl⟩ := List.mem_map.mp ((h2 k).mp hk)
    omega
  have e : out = (out.map Int.toNat).map fun (n : Nat) => (n : Int) := by
    rw [List.map_map]
    conv => lhs; rw [← List.map_id out]
    exact List.map_congr_left fun k hk => by
      show k = ((k.toNat : Nat) : Int)
      have := nn k hk
      omega
  rw [e]
  congr 1
  refine sorted_ext ?_ sortU_sorted fun k => ?_
  · rw [List.pairwise_map]
    exact h1.imp_of_mem fun {a b} ha hb hab => by
      have := nn a ha
      have := nn b hb
      omega
  · rw [mem_sortU hm, List.mem_map]
    constructor
    · rintro ⟨z, hz, rfl⟩
      obtain ⟨n, hn, rfl⟩ := List.mem_map.mp ((h2 z).mp hz)
      simpa using hn
    · intro hk
      exact ⟨(k : Int), (h2 _).mpr (List.mem_map.mpr ⟨k, hk, rfl⟩), by simp⟩
section
variable {K : PySem.W.Frag} {T : List Tb} {C : CC K T} {S : SS} {F : FP} {P P' : SV → FP → Prop} {PL : List SV → FP → Prop} {te ta : TE} {E : SE} {t : TS} {wi : TI} {tl : TA} {tt : TT}
theorem it_seqX (h : TJ C te S F fun x F1 => ∃ ds, (x = .d (.tuple ds) ∨ x = .d (.list ds)) ∧ PL (ds.map .d) F1) : IT C (iSeq K te) S F PL := fun σ H rs as R q => by
  refine h σ H rs as _ fun v H1 x F1 e1 a1 r1 ⟨ds, ex, p⟩ => ?_
  have key : ∀ (J : It) (xs : List V) (Gd : Hp → Prop), DqAll K (C.hid F1 H1) xs ds → (xs.length = (ds.map SV.d).length → Walk J (ds.map SV.d).length Gd (YAt xs)) → (∀ F2 H2, Ev C F1 H1 F2 H2 → As C F2 H2 → Gd H2) → R J H1 := fun J xs Gd hd W hG =>
    q J H1 F1 (ds.map .d) Gd (YAt xs) e1 a1 (W (by rw [List.length_map]; exact dps_len hd)) hG (fun i H2 v H3 F2 e a2 hi hy => by
      obtain ⟨e3, ev⟩ := hy
      subst e3
      obtain ⟨d, ed, rd⟩ := dps_getV hd ev
      exact ⟨Sub.refl _, a2, .d d, by rw [List.getElem?_map, ed]; rfl, dp_sub e rd⟩) p
  rcases ex with ex | ex
  · subst ex
    cases r1 with
    | tup hl hd => exact ⟨_, rfl, .inr ⟨⟨_, sqt_sub hid_sub hl⟩, key _ _ _ hd (fun e => e ▸ walk_tup) fun F2 H2 e a2 => sqt_sub hid_sub (sqt_sub e hl)⟩⟩
  · subst ex
    cases r1 with
    | lst hl hd => exact ⟨_, rfl, .inl ⟨⟨_, sql_sub hid_sub hl⟩, key _ _ _ hd (fun e => e ▸ walk_list) fun F2 H2 e a2 => sql_sub hid_sub (sql_sub e hl)⟩⟩
end
/-! ### contracts -/
abbrev mRow (row : MS.Row) : MO := .lst (row.map oD)
/-- reach_row -/
def c_reach : Ct := ⟨2, fun xs => ∃ (x : SV) (l : List Nat) (m : Nat), xs = [x, dI m] ∧ IntsD x l ∧ 0 < m ∧ m < 64 ∧ (∀ a ∈ l, 1 ≤ a) ∧ l.length < 64,
  fun xs y F => ∃ (p : Addr) (row : MS.Row), y = .m p ∧ F = [(p, mRow row)] ∧ ∀ (x : SV) (l : List Nat) (m : Nat), xs = [x, dI m] → IntsD x l → IsRow l m row⟩
theorem oD_get {row : MS.Row} {i : Nat} {o : Option Nat} (h : row[i]? = some o) : (row.map oD)[i]? = some (oD o) := map_get h
theorem oD_set (row : MS.Row) (i v : Nat) : (row.map oD).set i (dI (v : Nat)) = (row.set i (some v)).map oD := by rw [List.map_set]; rfl
theorem foldl_next {α β : Type} {f : β → α → β} {b : β} {l : List α} {i : Nat} {x : α} (h : l[i]? = some x) : (l.take (i + 1)).foldl f b = f ((l.take i).foldl f b) x := by
  rw [List.take_add_one, h]
  simp [List.foldl_append]
end G
namespace G
open PySem L2
theorem ixN_n {n j : Nat} (h : j < n) : ixN n (j : Int) = some j := by
  unfold ixN
  rw [if_pos (by omega), if_pos (by omega)]
  simp
theorem ixN_0 {n : Nat} (h : 0 < n) : ixN n 0 = some 0 := ixN_n (j := 0) h
theorem atI_n {α : Type} {xs : List α} {j : Nat} {x : α} (h : xs[j]? = some x) : atI xs (j : Int) = some x := by
  unfold atI
  rw [ixN_n (List.getElem?_eq_some_iff.mp h).1]
  exact h
theorem oD_some (v : Nat) : oD (some v) = dI v := rfl
theorem oD_none : oD none = dN := rfl
theorem tj_sub {K : PySem.W.Frag} {T : List Tb} {C : CC K T} {S : SS} {F : FP} {P : SV → FP → Prop} {te : TE} (h : TJ C te S F fun x F1 => ∃ F2, List.Sublist F2 F1 ∧ P x F2) : TJ C te S F P := fun σ H rs as Q q => by
  refine h σ H rs as _ fun v H1 x F1 e1 a1 r1 ⟨F2, sb, p⟩ => ?_
  obtain ⟨e2, a2⟩ := a1.sublist sb
  exact q v H1 x F2 (e1.trans e2) a2 (r1.sub e2) p
theorem setF_two {a p : Addr} {o mo mo' : MO} (h : p ≠ a) : setF [(a, o), (p, mo)] p mo' = [(a, o), (p, mo')] := by simp [setF, Ne.symm h]
theorem fld_go {c : Addr} {fs : List (Str × PyData)} {f : Str} {d : PyData} {Q : PyData → Prop} (hl : fs.lookup f = some d) (h : Q d) : ∃ fs' d', SV.o c fs = .o c fs' ∧ fs'.lookup f = some d' ∧ Q d' := ⟨fs, d, rfl, hl, h⟩
theorem meth_go {c : Addr} {fs : List (Str × PyData)} {m : Str} {Q : List (Str × PyData) → Prop} (hl : fs.lookup m = none) (h : Q fs) : ∃ fs', SV.o c fs = .o c fs' ∧ fs'.lookup m = none ∧ Q fs' := ⟨fs, rfl, hl, h⟩
theorem sfld_go {F : FP} {a c dx : Addr} {fs : List (Str × SV)} {Q : Addr → Addr → List (Str × SV) → Prop} (hm : (a, MO.ins c dx fs) ∈ F) (hl : fs.length < 1000) (h : Q a dx fs) : ∃ a' dx' fs', SV.m a = .m a' ∧ (a', MO.ins c dx' fs') ∈ F ∧ fs'.length < 1000 ∧ Q a' dx' fs' := ⟨a, dx, fs, rfl, hm, hl, h⟩
/-- owned objects are let go behind a statement -/
theorem st_out {K : PySem.W.Frag} {T : List Tb} {C : CC K T} {S : SS} {F : FP} {E : SE} {t : TS} (h : ST C t S F { E with nx := fun S' F' => ∃ F1, List.Sublist F1 F' ∧ E.nx S' F1 }) : ST C t S F E := fun σ H rs as D cv =>
  h σ H rs as D ⟨fun σ' H' S' F' e r a ⟨F1, sb, p⟩ => let ⟨e2, a2⟩ := a.sublist sb; cv.nx σ' H' S' F1 (e.trans e2) (r.sub e2) a2 p, cv.rt, cv.bk, cv.ct⟩
theorem pN_snoc (l : List Nat) (c : Nat) : (pN l).map SV.d ++ [dI c] = (pN (l ++ [c])).map .d := by
  rw [pN, pN, List.map_append, List.map_append]
  rfl
end G

namespace G
open PySem L2 RT PySem.Spec PyProof.Rows MS
structure BaseB (l : List Nat) : Prop where
  b : Base l
  hd : MS.hd l ≤ 60
  le : ∀ a ∈ l, a ≤ 1000
  len : l.length ≤ 60
theorem BaseB.cons {l : List Nat} (h : BaseB l) : ∃ a t, l = a :: t ∧ MS.hd l = a := by
  cases l with
  | nil => exact absurd rfl h.b.ne
  | cons a t => exact ⟨a, t, rfl, rfl⟩
abbrev tN (l : List Nat) : SV := .d (.tuple (pN l))
theorem tN_inj {l k : List Nat} (h : [tN l] = [tN k]) : l = k := pN_inj (by simpa using h)
/-- least_row -/
def c_least : Ct := ⟨1, fun xs => ∃ l, xs = [tN l] ∧ BaseB l, fun xs y F => F = [] ∧ ∃ row : List Nat, y = tN row ∧ ∀ l, xs = [tN l] → RowN l (MS.hd l) row⟩
theorem mRow_N (rn : List Nat) : mRow (rn.map some) = .lst ((pN rn).map .d) := by
  unfold mRow pN
  rw [List.map_map, List.map_map]
  rfl
/-- an instance of Sums -/
def sumsF (l row : List Nat) : List (Str × PyData) := [("base", .tuple (pN l)), ("by", .int (MS.hd l : Nat)), ("row", .tuple (pN row))]
abbrev oSums (c : Addr) (l row : List Nat) : SV := .o c (sumsF l row)
theorem sumsF_inj {l row l' row' : List Nat} (h : sumsF l row = sumsF l' row') : l = l' ∧ row = row' := by
  unfold sumsF at h
  simp only [List.cons.injEq, Prod.mk.injEq, PyData.tuple.injEq, true_and, and_true] at h
  exact ⟨pN_inj h.1, pN_inj h.2.2⟩
def c_sinit (c : Addr) : CtB := ⟨2, fun mo xs => ∃ dx l, mo = .ins c dx [] ∧ xs = [tN l] ∧ BaseB l, fun mo xs y mo' => y = dN ∧ ∀ dx l, mo = .ins c dx [] → xs = [tN l] → ∃ row, RowN l (MS.hd l) row ∧ mo' = .ins c dx (dFs (sumsF l row))⟩
/-- Sums.has -/
def c_has (c : Addr) : Ct := ⟨2, fun xs => ∃ l row n, xs = [oSums c l row, dI n] ∧ BaseB l ∧ RowN l (MS.hd l) row, fun xs y F => F = [] ∧ ∃ b : Bool, y = dB b ∧ ∀ l row n, xs = [oSums c l row, dI n] → (b = true ↔ 0 ≤ n ∧ Sm l n.toNat)⟩
def c_ggap (c : Addr) : Ct := ⟨1, fun xs => ∃ l row, xs = [oSums c l row] ∧ BaseB l ∧ RowN l (MS.hd l) row, fun xs y F => F = [] ∧ ∃ g : Int, y = dI g ∧ ∀ l row, xs = [oSums c l row] → IsTop l g⟩
def c_sgaps (c : Addr) : Ct := ⟨1, fun xs => ∃ l row, xs = [oSums c l row] ∧ BaseB l ∧ RowN l (MS.hd l) row, fun xs y F => F = [] ∧ ∃ gs : List Nat, y = .d (.list (pN gs)) ∧ ∀ l row, xs = [oSums c l row] → gs = gapsL l⟩
theorem o1_inj {c : Addr} {l row l' row' : List Nat} (h : [oSums c l row] = [oSums c l' row']) : l = l' ∧ row = row' := sumsF_inj (by simpa using h)
theorem o2_inj {c : Addr} {l row l' row' : List Nat} {n n' : Int} (h : [oSums c l row, dI n] = [oSums c l' row', dI n']) : l = l' ∧ row = row' ∧ n = n' := by
  simp only [List.cons.injEq, SV.o.injEq, true_and, SV.d.injEq, PyData.int.injEq, and_true] at h
  obtain ⟨h1, h2⟩ := sumsF_inj h.1
  exact ⟨h1, h2, h.2⟩
theorem RowN.bd {l row : List Nat} (b : BaseB l) (h : RowN l (MS.hd l) row) : ∀ v ∈ row, v ≤ 60000 := by
  intro v hv
  have h1 := h.le b.b.hd_pos (A := 1000) b.le v hv
  have h2 : (MS.hd l - 1) * 1000 ≤ 60 * 1000 := Nat.mul_le_mul_right _ (by have := b.hd; omega)
  omega
theorem IsTop.bd {l : List Nat} {g : Int} (b : BaseB l) (h : IsTop l g) : g < 60000 := by
  have h1 := h.lt b.b
  have h2 : MS.lst l ≤ 1000 := by
    have hm : MS.lst l ∈ l := by
      unfold MS.lst
      rw [List.getLastD_eq_getLast?, List.getLast?_eq_some_getLast b.b.ne]
      exact List.getLast_mem _
    exact b.le _ hm
  have h3 : MS.hd l * MS.lst l ≤ 60 * 1000 := Nat.mul_le_mul b.hd h2
  omega
/-- tables of sums -/
noncomputable def tabL (l : List Nat) (last : Nat) : List PyData := (List.range (last + 1)).map fun n => .bool (smb l n)
def c_sums : Ct := ⟨2, fun xs => ∃ (x : SV) (l : List Nat) (last : Nat), xs = [x, dI last] ∧ IntsD x l ∧ (∀ a ∈ l, 1 ≤ a ∧ a ≤ 1000000) ∧ last ≤ 10000000,
  fun xs y F => ∃ (p : Addr) (bs : List PyData), y = .m p ∧ F = [(p, .lst (bs.map .d))] ∧ ∀ (x : SV) (l : List Nat) (last : Nat), xs = [x, dI last] → IntsD x l → bs = tabL l last⟩
end G

namespace G
open PySem L2 RT PySem.Spec PyProof.Rows
/-! ### max, min of a tuple of ints -/
section
variable {P : Program} {w : World} {A : Around} {E : Value → Shared → Prop} {s : Shared} {l : Addr} {xs : Array (Int × Tok)}
theorem it_tupI {Q : Value → Shared → Prop} (hl : s.heap.IsTuple l (intItems xs))
    (h : ∀ s₂ : Shared, s₂ = { s with heap := s.heap.push { cls := .type "tuple_iterator", data := .fields #[.ref l, .int 0 0] } } →
      ((∃ o, s₂.heap.get? s.heap.objs.size = some o ∧ o.cls = .type "tuple_iterator" ∧ o.data = .fields #[.ref l, .int 0 0]) ∧ s₂.heap.IsTuple l (intItems xs)) → (∀ b ∈ [s.heap.objs.size, l], b < s₂.heap.objs.size) → l ≠ s.heap.objs.size → Q (.ref s.heap.objs.size) s₂) :
    wpAny (model P w) A (pyIter (.ref l)) Q E s := by
  have hlt : l < s.heap.objs.size := let ⟨_, e, _⟩ := hl; Heap.lt_size e
  refine wpAny_pyIter_tuple hl (h _ rfl ⟨⟨_, Heap.get?_push_size _ rfl, rfl, rfl⟩, hl.push _⟩ (fun b hb => ?_) (Nat.ne_of_lt hlt))
  rw [show ({ s with heap := s.heap.push _ } : Shared).heap.objs.size = (s.heap.push _).objs.size from rfl, Heap.size_push]
  simp only [List.mem_cons, List.not_mem_nil, or_false] at hb
  rcases hb with e | e
  · rw [e]; exact Nat.lt_succ_self _
  · rw [e]; exact Nat.lt_succ_of_lt hlt
theorem keptT {h' : Heap} (hk : ∀ b o, b ∉ [s.heap.objs.size] → (s.heap.push { cls := .type "tuple_iterator", data := .fields #[.ref l, .int 0 0] }).get? b = some o → h'.get? b = some o) :
    ∀ b o, s.heap.get? b = some o → h'.get? b = some o := fun b o e => hk b o (fun hm => by
  cases List.mem_singleton.mp hm
  exact absurd (Heap.lt_size e) (Nat.lt_irrefl _)) (Heap.get?_push_of_some _ e)
theorem maxT_raw {its : List Value} {ns : List Int} {Q : Value → Shared → Prop} (hh : A.handled = none) (hl : s.heap.IsTuple l its.toArray) (hi : IntsAre its ns) (hne : 0 < ns.length)
    (h : ∀ h' tk M t', (∀ b o, s.heap.get? b = some o → h'.get? b = some o) → M ∈ ns → (∀ a, a ∈ ns → a ≤ M) → Q (.int M t') { s with heap := h', toks := tk }) : wpAny (model P w) A (call (.builtin "max") [.ref l]) Q E s := by
  obtain ⟨xs, e⟩ := hi.allInts.items
  have hn : numsOf (intItems xs).toList = ns := e ▸ hi.numsOf
  rw [nums_intItems] at hn
  subst hn
  rw [e] at hl
  refine call_max_walk (it_tupI hl fun s₂ e2 st hfp hlI => ?_)
  subst e2
  refine ⟨_, _, _, _, _, _, _, rfl, Walks.tuple (A := A.in1) hh _ l hlI (intItems xs), st, hfp, by simpa [intItems] using hne, CmpOf.ints_gt (numAt xs) (fun _ _ => intItems_at), fun v h' tk hP hk => ?_⟩
  obtain ⟨t, rfl⟩ := intItems_at hP
  have hsz : (intItems xs).size = xs.size := by simp [intItems]
  have hx : 0 < xs.size := by simpa using hne
  rw [hsz]
  obtain ⟨h1, h2⟩ := argBest_gt (numAt xs) (xs.size - 1)
  refine h h' tk _ t (keptT hk) ?_ fun a ha => ?_
  · rw [numAt_eq]
    exact PySem.getD_mem (by rw [List.length_map, Array.length_toList]; omega)
  · obtain ⟨j, hj, rfl⟩ := mem_getD ha
    rw [List.length_map, Array.length_toList] at hj
    rw [← numAt_eq]
    exact h2 j (by omega)
theorem minT_raw {its : List Value} {ns : List Int} {Q : Value → Shared → Prop} (hh : A.handled = none) (hl : s.heap.IsTuple l its.toArray) (hi : IntsAre its ns) (hne : 0 < ns.length)
    (h : ∀ h' tk M t', (∀ b o, s.heap.get? b = some o → h'.get? b = some o) → M ∈ ns → (∀ a, a ∈ ns → M ≤ a) → Q (.int M t') { s with heap := h', toks := tk }) : wpAny (model P w) A (call (.builtin "min") [.ref l]) Q E s := by
  obtain ⟨xs, e⟩ := hi.allInts.items
  have hn : numsOf (intItems xs).toList = ns := e ▸ hi.numsOf
  rw [nums_intItems] at hn
  subst hn
  rw [e] at hl
  refine call_min_walk (it_tupI hl fun s₂ e2 st hfp hlI => ?_)
  subst e2
  refine ⟨_, _, _, _, _, _, _, rfl, Walks.tuple (A := A.in1) hh _ l hlI (intItems xs), st, hfp, by simpa [intItems] using hne, CmpOf.ints_lt (numAt xs) (fun _ _ => intItems_at), fun v h' tk hP hk => ?_⟩
  obtain ⟨t, rfl⟩ := intItems_at hP
  have hsz : (intItems xs).size = xs.size := by simp [intItems]
  have hx : 0 < xs.size := by simpa using hne
  rw [hsz]
  obtain ⟨h1, h2⟩ := argBest_lt (numAt xs) (xs.size - 1)
  refine h h' tk _ t (keptT hk) ?_ fun a ha => ?_
  · rw [numAt_eq]
    exact PySem.getD_mem (by rw [List.length_map, Array.length_toList]; omega)
  · obtain ⟨j, hj, rfl⟩ := mem_getD ha
    rw [List.length_map, Array.length_toList] at hj
    rw [← numAt_eq]
    exact h2 j (by omega)
end
/-- max(xs), min(xs): a list or a tuple of ints -/
def rMaxA (K : PySem.W.Frag) : List V → Hp → VK → Prop := fun vs H Q => ∃ (a : Addr) (ns : List Int), vs = [V.ref a] ∧ (SqL K H a (ns.map V.int) ∨ SqT K H a (ns.map V.int)) ∧ 0 < ns.length ∧ ∀ m, m ∈ ns → (∀ y, y ∈ ns → y ≤ m) → Q (.int m) H
def rMinA (K : PySem.W.Frag) : List V → Hp → VK → Prop := fun vs H Q => ∃ (a : Addr) (ns : List Int), vs = [V.ref a] ∧ (SqL K H a (ns.map V.int) ∨ SqT K H a (ns.map V.int)) ∧ 0 < ns.length ∧ ∀ m, m ∈ ns → (∀ y, y ∈ ns → m ≤ y) → Q (.int m) H
section
variable {X : Cx}
theorem cr_maxA (hc : X.calm = true) : CallR X (.builtin "max") (rMaxA X.K) := by
  intro pins s σ H vs us Q I r h
  obtain ⟨a, ns, rfl, hs, hne, q⟩ := h
  rcases hs with hs | hs
  · exact cr_max hc pins s σ H _ us Q I r ⟨a, ns, rfl, hs, hne, q⟩
  · rw [Vals.ref1 r]
    obtain ⟨its, rv, pl, _⟩ := I.tuple hs
    exact maxT_raw (I.ok.hd hc) pl rv.ints hne fun h' tk m t' hk h1 h2 => ⟨.int m, H, I.kept hk, ⟨_, rfl⟩, q m h1 h2⟩
theorem cr_minA (hc : X.calm = true) : CallR X (.builtin "min") (rMinA X.K) := by
  intro pins s σ H vs us Q I r h
  obtain ⟨a, ns, rfl, hs, hne, q⟩ := h
  rcases hs with hs | hs
  · exact cr_min hc pins s σ H _ us Q I r ⟨a, ns, rfl, hs, hne, q⟩
  · rw [Vals.ref1 r]
    obtain ⟨its, rv, pl, _⟩ := I.tuple hs
    exact minT_raw (I.ok.hd hc) pl rv.ints hne fun h' tk m t' hk h1 h2 => ⟨.int m, H, I.kept hk, ⟨_, rfl⟩, q m h1 h2⟩
end
section
variable {X : Cx} {K : PySem.W.Frag} (hK : X.K = K)
include hK
theorem k_maxA (hc : X.calm = true) : CallR X (.builtin "max") (rMaxA K) := hK ▸ cr_maxA hc
theorem k_minA (hc : X.calm = true) : CallR X (.builtin "min") (rMinA K) := hK ▸ cr_minA hc
end
section
variable {K : PySem.W.Frag} {T : List Tb} {C : CC K T} {S : SS} {F : FP} {P : SV → FP → Prop} {x : SV}
/-- ints in a list or a tuple, told or owned -/
def IntsA (F : FP) (x : SV) (ns : List Int) : Prop := IntsL F x ns ∨ x = .d (.tuple (ns.map .int))
theorem IntsA.sq {H : Hp} {ns : List Int} {v : V} (as : As C F H) (h : IntsA F x ns) (r : RV K (C.hid F H) x v) : ∃ a, v = .ref a ∧ (SqL K H a (ns.map V.int) ∨ SqT K H a (ns.map V.int)) := by
  rcases h with h | h
  · obtain ⟨a, e, q⟩ := h.sq as r
    exact ⟨a, e, .inl q⟩
  · subst h
    cases r with
    | tup hl hd =>
      rw [dps_ints hd] at hl
      exact ⟨_, rfl, .inr (sqt_sub hid_sub hl)⟩
theorem rc_maxA {ns : List Int} (h : IntsA F x ns) (hn : ns ≠ []) (k : ∀ m, m ∈ ns → (∀ y, y ∈ ns → y ≤ m) → P (dI m) F) : RC C (rMaxA K) [x] F P := fun H vs as r Q q => by
  obtain ⟨v, rfl, rv⟩ := rvs1 r
  obtain ⟨a, rfl, h1⟩ := h.sq as rv
  exact ⟨a, ns, rfl, h1, List.length_pos_iff.mpr hn, fun m h2 h3 => q _ H (dI _) F (Sub.refl _) as (rvI _) (k m h2 h3)⟩
theorem rc_minA {ns : List Int} (h : IntsA F x ns) (hn : ns ≠ []) (k : ∀ m, m ∈ ns → (∀ y, y ∈ ns → m ≤ y) → P (dI m) F) : RC C (rMinA K) [x] F P := fun H vs as r Q q => by
  obtain ⟨v, rfl, rv⟩ := rvs1 r
  obtain ⟨a, rfl, h1⟩ := h.sq as rv
  exact ⟨a, ns, rfl, h1, List.length_pos_iff.mpr hn, fun m h2 h3 => q _ H (dI _) F (Sub.refl _) as (rvI _) (k m h2 h3)⟩
/-- the first, the last member -/
theorem ro_hd {l : List Nat} (h : l ≠ []) (k : P (dI (MS.hd l : Nat)) F) : RO C (rIx K) (tN l) (dI 0) F P := by
  cases l with
  | nil => exact absurd rfl h
  | cons a t => exact ro_ixT (d := .int (a : Nat)) (atI_nat (j := 0) rfl) k
theorem ro_lst {l : List Nat} (h : l ≠ []) (k : P (dI (MS.lst l : Nat)) F) : RO C (rIx K) (tN l) (dI (-1)) F P := by
  have hl : 0 < l.length := List.length_pos_iff.mpr h
  refine ro_ixT (d := .int (MS.lst l : Nat)) ?_ k
  have hN : (pN l).length = l.length := List.length_map _
  unfold atI ixN
  rw [hN, if_neg (by decide), if_pos (by omega), show (-1 + (l.length : Int)).toNat = l.length - 1 by omega]
  show (pN l)[l.length - 1]? = _
  rw [List.getElem?_map, List.getElem?_eq_getElem (by omega)]
  unfold MS.lst
  rw [List.getLastD_eq_getLast?, List.getLast?_eq_some_getLast h, List.getLast_eq_getElem]
  rfl
/-- a place of numbers -/
theorem ro_ixN {l : List Nat} {i : Int} {v : Nat} (h0 : 0 ≤ i) (h : l[i.toNat]? = some v) (k : P (dI (v : Nat)) F) : RO C (rIx K) (tN l) (dI i) F P :=
  ro_ixT (atI_nat' h0 (by rw [List.getElem?_map, h]; rfl)) k
end
end G

namespace G
open PySem L2 RT PySem.Spec PyProof.Rows MS
theorem range_get {α : Type} {N k : Nat} {f : Nat → α} (h : k < N) : ((List.range N).map f)[k]? = some (f k) := by
  rw [List.getElem?_map, List.getElem?_range h]
  rfl
theorem range_set {α : Type} {N k : Nat} {f : Nat → α} {x : α} : ((List.range N).map f).set k x = (List.range N).map fun n => if n = k then x else f n := by
  apply List.ext_getElem?
  intro i
  rw [List.getElem?_set, List.length_map, List.length_range]
  by_cases hi : i < N
  · rw [range_get hi, range_get hi]
    by_cases hk : k = i
    · subst hk
      rw [if_pos rfl, if_pos hi, if_pos rfl]
    · rw [if_neg hk, if_neg (Ne.symm hk)]
  · rw [List.getElem?_eq_none (by rw [List.length_map, List.length_range]; omega), List.getElem?_eq_none (by rw [List.length_map, List.length_range]; omega)]
    split
    · rw [if_neg (by omega)]
    · rfl
/-- the table of the sums, as cells -/
noncomputable def tabC (l : List Nat) (last : Nat) : List SV := (List.range (last + 1)).map fun n => dB (smb l n)
theorem tabC_L (l : List Nat) (last : Nat) : tabC l last = (tabL l last).map .d := by
  unfold tabC tabL
  rw [List.map_map]
  rfl
theorem tabL_get {l : List Nat} {last n : Nat} (h : n ≤ last) : (tabL l last)[n]? = some (.bool (smb l n)) := range_get (by omega)
theorem tabL_len (l : List Nat) (last : Nat) : (tabL l last).length = last + 1 := by unfold tabL; simp
/-- _law_gcd -/
def c_lgcd : Ct := ⟨1, fun xs => ∃ (x : SV) (l : List Nat), xs = [x] ∧ IntsD x l ∧ ∀ a ∈ l, a ≤ 1000000, fun xs y F => F = [] ∧ ∃ g : Nat, y = dI g ∧ ∀ (x : SV) (l : List Nat), xs = [x] → IntsD x l → g = gcdL l⟩
/-- _law_base_of -/
def c_baseof : Ct := ⟨1, fun xs => ∃ (x : SV) (l : List Nat), xs = [x] ∧ IntsD x l ∧ (∀ a ∈ l, 1 ≤ a ∧ a ≤ 100000) ∧ l.length < 4000, fun xs y F => F = [] ∧ ∃ b : List Nat, y = tN b ∧ ∀ (x : SV) (l : List Nat), xs = [x] → IntsD x l → BaseOf l b⟩
/-- _law_bound -/
def c_bound : Ct := ⟨1, fun xs => ∃ l, xs = [tN l] ∧ BaseB l, fun xs y F => F = [] ∧ ∃ n : Nat, y = dI n ∧ ∀ l, xs = [tN l] → n = hd l * lst l + lst l⟩
/-- _law_table -/
def c_table : Ct := ⟨1, fun xs => ∃ l, xs = [tN l] ∧ BaseB l, fun xs y F => F = [] ∧ ∃ bs : List PyData, y = .d (.list bs) ∧ ∀ l, xs = [tN l] → bs = tabL l (2 * (hd l * lst l + lst l))⟩
/-- _law_has -/
def c_lhas : Ct := ⟨2, fun xs => ∃ (l : List Nat) (last : Nat) (n : Int), xs = [.d (.list (tabL l last)), dI n] ∧ (∀ n, last < n → Sm l n), fun xs y F => F = [] ∧ ∃ b : Bool, y = dB b ∧ ∀ (l : List Nat) (last : Nat) (n : Int), xs = [.d (.list (tabL l last)), dI n] → (∀ n, last < n → Sm l n) → (b = true ↔ 0 ≤ n ∧ Sm l n.toNat)⟩
/-- _law_gaps -/
def c_lgaps : Ct := ⟨1, fun xs => ∃ l, xs = [tN l] ∧ BaseB l, fun xs y F => F = [] ∧ ∃ gs : List Nat, y = .d (.list (pN gs)) ∧ ∀ l, xs = [tN l] → gs = gapsL l⟩
/-- _law_top -/
def c_ltop : Ct := ⟨1, fun xs => ∃ l, xs = [tN l] ∧ BaseB l, fun xs y F => F = [] ∧ ∃ g : Int, y = dI g ∧ ∀ l, xs = [tN l] → IsTop l g⟩
/-- a drawn base -/
structure BaseS (l : List Nat) (most : Nat) : Prop where
  b : Base l
  hd : MS.hd l ≤ 8
  le : ∀ a ∈ l, a ≤ most + 9
  len : l.length ≤ 6
  le2 : ∀ a ∈ l, a ≤ max 9 (2 * most)
theorem BaseS.B {l : List Nat} {most : Nat} (h : BaseS l most) (hm : most ≤ 100) : BaseB l := ⟨h.b, by have := h.hd; omega, fun a ha => by have := h.le a ha; omega, by have := h.len; omega⟩
/-- _law_base -/
def c_base : CtB := ⟨2, fun mo xs => isPool mo ∧ ∃ most : Nat, xs = [dI most] ∧ 2 ≤ most ∧ most ≤ 100, fun mo xs y mo' => isPool mo' ∧ ∃ l, y = tN l ∧ ∀ most : Nat, xs = [dI most] → BaseS l most⟩
theorem lst_mem {l : List Nat} (h : l ≠ []) : lst l ∈ l := by
  unfold MS.lst
  rw [List.getLastD_eq_getLast?, List.getLast?_eq_some_getLast h]
  exact List.getLast_mem _
theorem BaseB.bd {l : List Nat} (h : BaseB l) : 1 ≤ MS.hd l ∧ MS.hd l ≤ 60 ∧ MS.lst l ≤ 1000 ∧ MS.hd l * MS.lst l ≤ 60000 := by
  have h2 := h.le _ (lst_mem h.b.ne)
  exact ⟨h.b.hd_pos, h.hd, h2, Nat.mul_le_mul h.hd h2⟩
section
variable {K : PySem.W.Frag} {T : List Tb} {C : CC K T} {S : SS} {F : FP} {P : SV → FP → Prop} {tl : TA} {c : Addr}
/-- Sums(base) -/
theorem tj_sums (h : TL C tl S F fun xs F1 => ∃ l, xs = [tN l] ∧ BaseB l ∧ ∀ row, RowN l (MS.hd l) row → P (oSums c l row) F1) : TJ C (tMake c ((c_sinit c).sp K T) [] E0 tl) S F P := by
  refine tj_make fun σ H rs as Q q => h σ H rs as _ fun vs H1 xs F1 e1 a1 r1 ⟨l, ex, hb, k⟩ => q vs H1 xs F1 e1 a1 r1 ?_
  subst ex
  refine ⟨rfl, fun dx => ⟨⟨dx, l, rfl, rfl, hb⟩, fun y mo' po => ⟨po.1, ?_⟩⟩⟩
  obtain ⟨row, hr, em⟩ := po.2 dx l rfl rfl
  exact ⟨_, em, k row hr⟩
end
section
variable {K : PySem.W.Frag} {T : List Tb} {C : CC K T} {F : FP} {P : SV → FP → Prop}
theorem cl_base {p : Addr} {mo : MO} {most : Nat} (hm : (p, mo) ∈ F) (hp : isPool mo) (h1 : 2 ≤ most ∧ most ≤ 100) (k : ∀ l mo', BaseS l most → isPool mo' → P (tN l) (setF F p mo')) : CL C (c_base.sp K T) [.m p, dI most] F P :=
  cl_ctb (c := c_base) rfl hm ⟨hp, most, rfl, h1.1, h1.2⟩ fun y mo' ⟨h2, l, e, h3⟩ => by
    subst e
    exact k l mo' (h3 most rfl) h2
theorem cl_base1 {p : Addr} {mo : MO} {most : Nat} (hp : isPool mo) (h1 : 2 ≤ most ∧ most ≤ 100) (k : ∀ l mo', BaseS l most → isPool mo' → P (tN l) [(p, mo')]) : CL C (c_base.sp K T) [.m p, dI most] [(p, mo)] P :=
  cl_base (List.Mem.head _) hp h1 fun l mo' h2 h3 => by
    rw [setF_one]
    exact k l mo' h2 h3
end
theorem okN {n : Nat} {l : List Nat} : OkAll n (pN l) := fun x hx => by
  obtain ⟨i, _, rfl⟩ := List.mem_map.mp hx
  exact .int
theorem base1 : BaseB [1] := ⟨Base.ofC (by decide +kernel), by decide, by decide, by decide⟩
def c_gaps : Ct := ⟨1, fun xs => ∃ l, xs = [tN l] ∧ BaseB l, fun xs y F => F = [] ∧ ∃ gs : List Nat, y = .d (.list (pN gs)) ∧ ∀ l, xs = [tN l] → gs = gapsL l⟩
def c_genus : Ct := ⟨1, fun xs => ∃ l, xs = [tN l] ∧ BaseB l, fun xs y F => F = [] ∧ ∃ g : Nat, y = dI g ∧ ∀ l, xs = [tN l] → g = (gapsL l).length⟩
def c_gg : Ct := ⟨1, fun xs => ∃ l, xs = [tN l] ∧ BaseB l, fun xs y F => F = [] ∧ ∃ g : Int, y = dI g ∧ ∀ l, xs = [tN l] → IsTop l g⟩
theorem frz_ds {F : FP} : ∀ ds : List PyData, FrzAll F (ds.map .d) F ds
  | [] => .nil
  | d :: ds => .cons (.d d) (frz_ds ds)
end G

namespace MS
/-! ### the number of gaps by a row -/
def sumL : List Nat → Nat
  | [] => 0
  | a :: l => a + sumL l
theorem sumL_map_add {α : Type} (f g : α → Nat) : ∀ l : List α, sumL (l.map fun x => f x + g x) = sumL (l.map f) + sumL (l.map g)
  | [] => rfl
  | a :: l => by
    show f a + g a + sumL (l.map fun x => f x + g x) = (f a + sumL (l.map f)) + (g a + sumL (l.map g))
    rw [sumL_map_add f g l]
    omega
theorem sumL_congr {α : Type} {f g : α → Nat} : ∀ {l : List α}, (∀ x ∈ l, f x = g x) → sumL (l.map f) = sumL (l.map g)
  | [], _ => rfl
  | a :: l, h => by
    show f a + sumL (l.map f) = g a + sumL (l.map g)
    rw [h a List.mem_cons_self, sumL_congr fun x hx => h x (List.mem_cons_of_mem _ hx)]
theorem sumL_app : ∀ l k : List Nat, sumL (l ++ k) = sumL l + sumL k
  | [], k => by simp [sumL]
  | a :: l, k => by
    show a + sumL (l ++ k) = a + sumL l + sumL k
    rw [sumL_app l k, Nat.add_assoc]
theorem sumL_const (c : Nat) : ∀ m : Nat, sumL ((List.range m).map fun _ => c) = m * c
  | 0 => by simp [sumL]
  | m + 1 => by
    rw [List.range_succ, List.map_append, sumL_app, sumL_const c m, Nat.succ_mul]
    rfl
theorem sumL_range : ∀ m : Nat, 2 * sumL ((List.range m).map fun r => r) = m * (m - 1)
  | 0 => rfl
  | m + 1 => by
    rw [List.range_succ, List.map_append, sumL_app, Nat.mul_add, sumL_range m]
    show m * (m - 1) + 2 * (m + 0) = (m + 1) * m
    cases m with
    | zero => rfl
    | succ k =>
      simp only [Nat.add_sub_cancel, Nat.add_zero]
      rw [show (k + 1) * k + 2 * (k + 1) = (k + 1) * (k + 2) by rw [← Nat.mul_comm (k + 1) 2, ← Nat.mul_add], Nat.mul_comm]
theorem len_filter {α : Type} (p : α → Bool) : ∀ l : List α, (l.filter p).length = sumL (l.map fun x => if p x = true then 1 else 0)
  | [] => rfl
  | a :: l => by
    rw [List.filter_cons]
    show _ = (if p a = true then 1 else 0) + sumL (l.map _)
    rw [← len_filter p l]
    split
    · rw [List.length_cons]; omega
    · omega
/-- the gaps below m * Q -/
theorem gaps_below {l : List Nat} {m : Nat} {row : List Nat} (h : RowN l m row) (hm : m ∈ l) (h0 : 0 < m) : ∀ Q : Nat, (gapsN l (m * Q)).length = sumL ((List.range m).map fun r => min Q (row.getD r 0 / m))
  | 0 => by
    rw [Nat.mul_zero]
    have : (List.range m).map (fun r => min 0 (row.getD r 0 / m)) = (List.range m).map fun _ => 0 := List.map_congr_left fun r _ => Nat.zero_min _
    rw [this, sumL_const]
    simp [gapsN]
  | Q + 1 => by
    have ih := gaps_below h hm h0 Q
    have e : gapsN l (m * (Q + 1)) = gapsN l (m * Q) ++ ((List.range m).map (m * Q + ·)).filter (fun n => !smb l n) := by
      unfold gapsN
      rw [Nat.mul_add, Nat.mul_one, List.range_add, List.filter_append]
    rw [e, List.length_append, ih, List.filter_map, List.length_map, len_filter, ← sumL_map_add]
    refine sumL_congr fun r hr => ?_
    have hr := List.mem_range.mp hr
    obtain ⟨v, ev, h1, h2, h3⟩ := h.2 r hr
    have eg : row.getD r 0 = v := by rw [List.getD_eq_getElem?_getD, ev]; rfl
    rw [eg]
    have hd := Nat.div_add_mod v m
    have key : Sm l (m * Q + r) ↔ v / m ≤ Q := by
      have e2 : (m * Q + r) % m = r := by rw [Nat.mul_add_mod, Nat.mod_eq_of_lt hr]
      constructor
      · intro hs
        have := h3 _ hs e2
        apply Nat.le_of_not_lt
        intro hc
        have := Nat.mul_le_mul_left m hc
        rw [Nat.succ_eq_add_one, Nat.mul_add, Nat.mul_one] at this
        omega
      · intro hle
        refine sm_up hm h1 ?_ (by rw [h2, e2])
        have := Nat.mul_le_mul_left m hle
        omega
    by_cases hc : v / m ≤ Q
    · rw [if_neg (by simp [smb_iff.mpr (key.mpr hc)])]
      omega
    · rw [if_pos (by
        have : smb l (m * Q + r) = false := smb_no.mpr fun z => hc (key.mp z)
        simp [this])]
      omega
theorem range_getD (row : List Nat) : (List.range row.length).map (fun r => row.getD r 0) = row := by
  apply List.ext_getElem?
  intro i
  rw [List.getElem?_map]
  by_cases hi : i < row.length
  · rw [List.getElem?_range hi, List.getElem?_eq_getElem hi]
    show some (row.getD i 0) = _
    rw [List.getD_eq_getElem?_getD, List.getElem?_eq_getElem hi]
    rfl
  · rw [List.getElem?_eq_none (by rw [List.length_range]; omega), List.getElem?_eq_none (by omega)]
    rfl
/-- twice the row's sum -/
theorem selmer {l : List Nat} {row : List Nat} (b : Base l) (h : RowN l (hd l) row) : 2 * sumL row = hd l * (2 * (gapsL l).length + hd l - 1) := by
  have hm := hd_mem b.ne
  have h0 := b.hd_pos
  have hA : ∀ v ∈ row, v / hd l ≤ lst l := fun v hv => by
    have h1 := h.le h0 (so_last b.so) v hv
    have h2 : v ≤ hd l * lst l := Nat.le_trans h1 (Nat.mul_le_mul_right _ (Nat.sub_le _ _))
    exact Nat.div_le_of_le_mul h2
  have h1 := gaps_below h hm h0 (lst l)
  have h2 : gapsN l (hd l * lst l) = gapsL l := rfl
  rw [h2] at h1
  have h3 : sumL ((List.range (hd l)).map fun r => min (lst l) (row.getD r 0 / hd l)) = sumL ((List.range (hd l)).map fun r => row.getD r 0 / hd l) := sumL_congr fun r hr => by
    have hr := List.mem_range.mp hr
    obtain ⟨v, ev, _⟩ := h.2 r hr
    have eg : row.getD r 0 = v := by rw [List.getD_eq_getElem?_getD, ev]; rfl
    rw [eg]
    exact Nat.min_eq_right (hA v (List.mem_of_getElem? ev))
  rw [h3] at h1
  have h4 : sumL row = hd l * sumL ((List.range (hd l)).map fun r => row.getD r 0 / hd l) + sumL ((List.range (hd l)).map fun r => r) := by
    have mul : ∀ (c : Nat) (k : List Nat), c * sumL k = sumL (k.map fun x => c * x) := fun c k => by
      induction k with
      | nil => rfl
      | cons a k ih =>
        show c * (a + sumL k) = c * a + sumL (k.map _)
        rw [Nat.mul_add, ih]
    rw [mul, List.map_map, ← sumL_map_add]
    conv => lhs; rw [← range_getD row, h.1]
    refine sumL_congr fun r hr => ?_
    have hr := List.mem_range.mp hr
    obtain ⟨v, ev, _, h2, _⟩ := h.2 r hr
    have eg : row.getD r 0 = v := by rw [List.getD_eq_getElem?_getD, ev]; rfl
    show row.getD r 0 = hd l * (row.getD r 0 / hd l) + r
    rw [eg]
    have := Nat.div_add_mod v (hd l)
    omega
  rw [h4, Nat.mul_add, sumL_range, ← h1]
  obtain ⟨k, hk⟩ : ∃ k, hd l = k + 1 := ⟨hd l - 1, by omega⟩
  rw [hk, Nat.add_sub_cancel, show 2 * (gapsL l).length + (k + 1) - 1 = 2 * (gapsL l).length + k by omega, Nat.mul_add (k + 1), Nat.mul_left_comm]
theorem sumL_int (l : List Nat) : (l.map fun (n : Nat) => (n : Int)).sum = ((sumL l : Nat) : Int) := by
  induction l with
  | nil => rfl
  | cons a l ih =>
    rw [List.map_cons, List.sum_cons, ih]
    rfl
end MS
namespace MS
theorem rounds_inv {l : List Nat} {m : Nat} (hm : 0 < m) (hl : ∀ a ∈ l, 1 ≤ a) : ∀ (N : Nat) {st : Row × List Nat}, Inv l m st → Inv l m (rounds m l N st)
  | 0, _, h => h
  | N + 1, _, h => rounds_inv hm hl N (round_inv hm hl h)
/-- a row is there -/
theorem row_any {l : List Nat} {m : Nat} (hm : 0 < m) (hl : ∀ a ∈ l, 1 ≤ a) (hg : gcdL l = 1) : ∃ row, RowN l m row := by
  obtain ⟨N, hN⟩ := ends m l ((List.replicate m none).set 0 (some 0), [0])
  have h := rounds_inv hm hl N (inv_start (l := l) hm)
  generalize rounds m l N _ = st at hN h
  obtain ⟨row, lev⟩ := st
  dsimp only at hN
  subst hN
  obtain ⟨rn, _, hr⟩ := row_full hm hg (inv_row hm h)
  exact ⟨rn, hr⟩
end MS

namespace G
open PySem L2 RT PySem.Spec PyProof.Rows MS StX
section
variable {K : PySem.W.Frag} {T : List Tb} {C : CC K T} {S : SS} {F : FP} {P : SV → FP → Prop} {PL : List SV → FP → Prop} {ta : TE} {tr : TA}
theorem rvs_cat {H : Hp} : ∀ {xs ys : List SV} {vs ws : List V}, RVs K H xs vs → RVs K H ys ws → RVs K H (xs ++ ys) (vs ++ ws)
  | [], _, _, _, .nil, b => b
  | _ :: _, _, _, _, .cons h t, b => .cons h (rvs_cat t b)
theorem tl_star (h : TJ C ta S F fun x F1 => ∃ ds, (x = .d (.tuple ds) ∨ x = .d (.list ds)) ∧ TL C tr S F1 fun xs F2 => PL (ds.map .d ++ xs) F2) : TL C (tStar K ta tr) S F PL := fun σ H rs as Q q =>
  h σ H rs as _ fun v H1 x F1 e1 a1 r1 ⟨ds, ex, h1⟩ => by
    rcases ex with ex | ex
    · subst ex
      cases r1 with
      | tup hl hd => exact ⟨_, _, rfl, .inl (sqt_sub hid_sub hl), h1 σ H1 (rs.sub e1) a1 _ fun vs H2 xs F2 e2 a2 r2 p => q _ H2 _ F2 (e1.trans e2) a2 (rvs_cat (d_rvs (dps_sub e2 hd)) r2) p⟩
    · subst ex
      cases r1 with
      | lst hl hd => exact ⟨_, _, rfl, .inr (sql_sub hid_sub hl), h1 σ H1 (rs.sub e1) a1 _ fun vs H2 xs F2 e2 a2 r2 p => q _ H2 _ F2 (e1.trans e2) a2 (rvs_cat (d_rvs (dps_sub e2 hd)) r2) p⟩
end
theorem k_star {X : Cx} {K : PySem.W.Frag} (hK : X.K = K) {e : Expr} {es : List Expr} {te : TE} {t : TA} {p : Pos} (he : PE X e te) (hr : PA X es t) (hs : starEach (.Starred e p :: es) X.env = (true, eval e X.env) :: starEach es X.env := by rfl) : PA X (.Starred e p :: es) (tStar K te t) := hK ▸ pa_star he hr hs
/-- _law_pick -/
def c_pick : CtB := ⟨2, fun mo xs => isPool mo ∧ ∃ ds, (xs = [.d (.list ds)] ∨ xs = [.d (.tuple ds)]) ∧ ds ≠ [] ∧ ds.length ≤ 100000000, fun mo xs y mo' => isPool mo' ∧ ∃ d, y = .d d ∧ ∀ ds, (xs = [.d (.list ds)] ∨ xs = [.d (.tuple ds)]) → d ∈ ds⟩
section
variable {K : PySem.W.Frag} {T : List Tb} {C : CC K T} {F : FP} {P : SV → FP → Prop}
theorem cl_pick1 {p : Addr} {mo : MO} {x : SV} {ds : List PyData} (hp : isPool mo) (hx : x = .d (.list ds) ∨ x = .d (.tuple ds)) (h1 : ds ≠ [] ∧ ds.length ≤ 100000000) (k : ∀ d mo', d ∈ ds → isPool mo' → P (.d d) [(p, mo')]) : CL C (c_pick.sp K T) [.m p, x] [(p, mo)] P := by
  have hx2 : [x] = [.d (.list ds)] ∨ [x] = [.d (.tuple ds)] := by
    rcases hx with hx | hx <;> rw [hx]
    · exact .inl rfl
    · exact .inr rfl
  refine cl_ctb (c := c_pick) rfl (List.Mem.head _) ⟨hp, ds, hx2, h1.1, h1.2⟩ fun y mo' ⟨h2, d, e, h3⟩ => ?_
  subst e
  rw [setF_one]
  exact k d mo' (h3 ds hx2) h2
end
/-- row_by -/
def c_rowby : Ct := ⟨2, fun xs => ∃ (l : List Nat) (n : Nat), xs = [tN l, dI n] ∧ BaseB l ∧ l.length < 60 ∧ 1 ≤ n ∧ n < 64 ∧ Sm l n, fun xs y F => F = [] ∧ ∃ row : List Nat, y = tN row ∧ ∀ (l : List Nat) (n : Nat), xs = [tN l, dI n] → RowN l n row⟩
/-- _law_row -/
def c_lrow : Ct := ⟨1, fun xs => ∃ l, xs = [tN l] ∧ BaseB l, fun xs y F => F = [] ∧ ∃ row : List Nat, y = tN row ∧ ∀ l, xs = [tN l] → RowN l (MS.hd l) row⟩
theorem rowN_uniq {l : List Nat} {m : Nat} {row row' : List Nat} (h : RowN l m row) (g : RowN l m row') : row = row' := by
  apply List.ext_getElem?
  intro r
  by_cases hr : r < m
  · obtain ⟨v, e1, h1, h2, h3⟩ := h.2 r hr
    obtain ⟨w, e2, g1, g2, g3⟩ := g.2 r hr
    rw [e1, e2, Nat.le_antisymm (h3 w g1 g2) (g3 v h1 h2)]
  · rw [List.getElem?_eq_none (by rw [h.1]; omega), List.getElem?_eq_none (by rw [g.1]; omega)]
theorem tN2_inj {l k : List Nat} {n m : Nat} (h : [tN l, dI n] = [tN k, dI m]) : l = k ∧ n = m := by
  simp only [List.cons.injEq, SV.d.injEq, PyData.tuple.injEq, PyData.int.injEq, and_true] at h
  exact ⟨pN_inj h.1, by omega⟩
end G

namespace G
open PySem L2 PySem.Spec PyProof.Rows
/-! ### all(it), any(it) over a walk told by a state alone -/
/-- a walk of n values, the i-th is as Y tells; St i: what holds before the i-th -/
structure WalkT (P : Program) (w : World) (A : Around) (I : Addr) (n : Nat) (Y : Nat → Value → Prop) (St : Nat → Shared → Prop) (Fin : Shared → Prop) : Prop where
  item : ∀ i s (Q : Option Value → Shared → Prop) (E : Value → Shared → Prop), i < n → St i s → (∀ v s', Y i v → St (i + 1) s' → Q (some v) s') → wpAny (model P w) A (pyNext (.ref I)) Q E s
  done : ∀ s (Q : Option Value → Shared → Prop) (E : Value → Shared → Prop), St n s → (∀ s', Fin s' → Q none s') → wpAny (model P w) A (pyNext (.ref I)) Q E s
  stop : ∀ i s, i < n → St (i + 1) s → Fin s
section
variable {P : Program} {w : World} {A : Around} {I : Addr} {n : Nat} {tr : Nat → Bool} {St : Nat → Shared → Prop} {Fin : Shared → Prop}
theorem all_loopT {R : Result → Shared → Prop} (W : WalkT P w A.in1 I n (fun i v => v = .bool (tr i)) St Fin) : ∀ (k i : Nat) (s : Shared), n - i = k → i ≤ n → St i s →
    (∀ s', Fin s' → R (.ok (.ret (.bool (((List.range n).drop i).all tr)))) s') → codeAny (model P w) A (.builtin "all.loop" ⟨[.ref I], []⟩) R s := by
  intro k
  induction k with
  | zero =>
    intro i s hk hi hst hR
    cases (show i = n by omega)
    refine codeAny_builtin F.entry_all_loop ?_
    rw [Around.under_plainId F.plain_all_loop _]
    refine (show wpAny _ A.in1 (pyNext (.ref I) >>= _) _ _ s from wpAny_bind (W.done s _ _ hst fun s' hf => ?_))
    refine wpAny_bind (wpAny_rule (wpAny_pure ?_))
    have h := hR s' hf
    rw [List.drop_of_length_le (by simp)] at h
    exact h
  | succ k ih =>
    intro i s hk hi hst hR
    have hlt : i < n := by omega
    have hd : (List.range n).drop i = i :: (List.range n).drop (i + 1) := by
      rw [List.drop_eq_getElem_cons (by simpa using hlt), List.getElem_range]
    rw [hd, List.all_cons] at hR
    refine codeAny_builtin F.entry_all_loop ?_
    rw [Around.under_plainId F.plain_all_loop _]
    refine (show wpAny _ A.in1 (pyNext (.ref I) >>= _) _ _ s from wpAny_bind (W.item i s _ _ hlt hst fun v s' hv hst' => ?_))
    cases (show v = .bool (tr i) from hv)
    refine wpAny_bind (wpAny_holding (wpAny_truthy_bool ?_))
    refine wpAny_bind (wpAny_letGo ?_)
    cases hb : tr i with
    | true =>
      rw [hb, Bool.true_and] at hR
      simp only [if_true]
      exact wpAny_pure ⟨plainId_quiet F.plain_all_loop _, ih (i + 1) s' (by omega) hlt hst' hR⟩
    | false =>
      rw [hb, Bool.false_and] at hR
      simp only [Bool.false_eq_true, if_false]
      exact wpAny_bind (wpAny_rule (wpAny_pure (hR s' (W.stop i s' hlt hst'))))
theorem any_loopT {R : Result → Shared → Prop} (W : WalkT P w A.in1 I n (fun i v => v = .bool (tr i)) St Fin) : ∀ (k i : Nat) (s : Shared), n - i = k → i ≤ n → St i s →
    (∀ s', Fin s' → R (.ok (.ret (.bool (((List.range n).drop i).any tr)))) s') → codeAny (model P w) A (.builtin "any.loop" ⟨[.ref I], []⟩) R s := by
  intro k
  induction k with
  | zero =>
    intro i s hk hi hst hR
    cases (show i = n by omega)
    refine codeAny_builtin F.entry_any_loop ?_
    rw [Around.under_plainId F.plain_any_loop _]
    refine (show wpAny _ A.in1 (pyNext (.ref I) >>= _) _ _ s from wpAny_bind (W.done s _ _ hst fun s' hf => ?_))
    refine wpAny_bind (wpAny_rule (wpAny_pure ?_))
    have h := hR s' hf
    rw [List.drop_of_length_le (by simp)] at h
    exact h
  | succ k ih =>
    intro i s hk hi hst hR
    have hlt : i < n := by omega
    have hd : (List.range n).drop i = i :: (List.range n).drop (i + 1) := by
      rw [List.drop_eq_getElem_cons (by simpa using hlt), List.getElem_range]
    rw [hd, List.any_cons] at hR
    refine codeAny_builtin F.entry_any_loop ?_
    rw [Around.under_plainId F.plain_any_loop _]
    refine (show wpAny _ A.in1 (pyNext (.ref I) >>= _) _ _ s from wpAny_bind (W.item i s _ _ hlt hst fun v s' hv hst' => ?_))
    cases (show v = .bool (tr i) from hv)
    refine wpAny_bind (wpAny_holding (wpAny_truthy_bool ?_))
    refine wpAny_bind (wpAny_letGo ?_)
    cases hb : tr i with
    | false =>
      rw [hb, Bool.false_or] at hR
      simp only [Bool.false_eq_true, if_false]
      exact wpAny_pure ⟨plainId_quiet F.plain_any_loop _, ih (i + 1) s' (by omega) hlt hst' hR⟩
    | true =>
      rw [hb, Bool.true_or] at hR
      simp only [if_true]
      exact wpAny_bind (wpAny_rule (wpAny_pure (hR s' (W.stop i s' hlt hst'))))
theorem call_allT {x : Value} {E : Value → Shared → Prop} {s : Shared} {Q : Value → Shared → Prop}
    (h : wpAny (model P w) A.in1 (pyIter x) (fun it s₂ => ∃ I n tr St Fin, it = .ref I ∧ WalkT P w A.in1 I n (fun i v => v = .bool (tr i)) St Fin ∧ St 0 s₂ ∧ ∀ s', Fin s' → Q (.bool ((List.range n).all tr)) s') E s) :
    wpAny (model P w) A (call (.builtin "all") [x]) Q E s := by
  refine call_function_tree F.kind_all F.plain_all F.entry_all (F.args_all1 _) ?_
  unfold Builtin.«all»
  refine wpAny_bind (m := oneArg "all" _) (wpAny_pure ?_)
  refine wpAny_bind (wpAny_mono h (fun it s₂ h₂ => ?_) fun _ _ e => e)
  obtain ⟨I, n, tr, St, Fin, rfl, W, hst, hQ⟩ := h₂
  exact wpAny_pure ⟨plainId_quiet F.plain_all_loop _, all_loopT W n 0 s₂ rfl (Nat.zero_le _) hst fun s' hf => by simpa using hQ s' hf⟩
theorem call_anyT {x : Value} {E : Value → Shared → Prop} {s : Shared} {Q : Value → Shared → Prop}
    (h : wpAny (model P w) A.in1 (pyIter x) (fun it s₂ => ∃ I n tr St Fin, it = .ref I ∧ WalkT P w A.in1 I n (fun i v => v = .bool (tr i)) St Fin ∧ St 0 s₂ ∧ ∀ s', Fin s' → Q (.bool ((List.range n).any tr)) s') E s) :
    wpAny (model P w) A (call (.builtin "any") [x]) Q E s := by
  refine call_function_tree F.kind_any F.plain_any F.entry_any (F.args_any1 _) ?_
  unfold Builtin.«any»
  refine wpAny_bind (m := oneArg "any" _) (wpAny_pure ?_)
  refine wpAny_bind (wpAny_mono h (fun it s₂ h₂ => ?_) fun _ _ e => e)
  obtain ⟨I, n, tr, St, Fin, rfl, W, hst, hQ⟩ := h₂
  exact wpAny_pure ⟨plainId_quiet F.plain_any_loop _, any_loopT W n 0 s₂ rfl (Nat.zero_le _) hst fun s' hf => by simpa using hQ s' hf⟩
end
end G

namespace G
open PySem L2 PySem.Spec PyProof.Rows
/-! ### the run of a generator expression, told by a state alone -/
/-- what is told at a pause -/
def protoT (n₀ : Nat) (Jy : Nat → Value → Shared → Prop) (J : Nat → Shared → Prop) : Protocol := fun m _ v s kap => Jy (n₀ - 1 - m) v s ∧ ∀ s'', J (n₀ - m) s'' → kap (.send .none) s''
section
variable {prog : Program} {w : World} {A : Around}
theorem seg_loopT {elt iter : Expr} {tgt : Expr} {scope : Scope} {pos : Pos} {I : Addr} {n₀ : Nat} {cenv : Env} {Jy : Nat → Value → Shared → Prop} {J : Nat → Shared → Prop} {Jn Jv : Nat → Value → Shared → Prop} {Jx : Nat → Shared → Prop} {Fin' : Shared → Prop} {c : Code}
    (hc : c = .compLoop (.GeneratorExp elt [⟨tgt, iter, [], 0⟩] scope pos) 0 (.ref I) .none cenv)
    (hco : cenv.scope.isCoroutine = false)
    (hnext : ∀ i s (Q : Option Value → Shared → Prop) (E : Value → Shared → Prop), i < n₀ → J i s → (∀ v s', Jn i v s' → Q (some v) s') → wpAny (model prog w) (A.over c []) (pyNext (.ref I)) Q E s)
    (hgo : ∀ i v s (Q : Unit → Shared → Prop) (E : Value → Shared → Prop), Jn i v s → (∀ s', Jv i v s' → Q () s') → wpAny (model prog w) (A.over c []) (letOwnedTupleGo tgt (.ref I) v) Q E s)
    (hdone : ∀ s (Q : Option Value → Shared → Prop) (E : Value → Shared → Prop), J n₀ s → (∀ s', Fin' s' → Q none s') → wpAny (model prog w) (A.over c []) (pyNext (.ref I)) Q E s)
    (hasg : ∀ i v s (Q : Unit → Shared → Prop) (E : Value → Shared → Prop), Jv i v s → (∀ s', Jx i s' → Q () s') → wpAny (model prog w) (A.over c []) (assign tgt cenv v) Q E s)
    (helt : ∀ i s (Q : Value → Shared → Prop) (E : Value → Shared → Prop), i < n₀ → Jx i s → (∀ v s', Jy i v s' → Q v s') → wpAny (model prog w) (A.over c []) (eval elt cenv) Q E s) :
    ∀ (k i : Nat) (s₀ s : Shared), n₀ - i = k → i ≤ n₀ → J i s →
      Seg (model prog w) A (fun n _ r s₁ => r = .ok .next ∧ (n = 0 ∧ Fin' s₁)) (protoT n₀ Jy J) (n₀ - i) s₀ c ((model prog w).den c) [] s := by
  subst hc
  intro k
  induction k with
  | zero =>
    intro i s₀ s hk hi hj
    cases (show i = n₀ by omega)
    show Seg _ A _ _ _ s₀ _ ((compTurn (.GeneratorExp elt [⟨tgt, iter, [], 0⟩] scope pos) 0 (.ref I) .none cenv).onRaise (leaving cenv)) [] s
    rw [compTurn_gen, Sem.onRaise_eq_wrap]
    refine seg_bind_wrap (wpAny_standAt (seg_bind_wrap (hdone s _ _ hj fun s' hf => ?_)))
    exact seg_end (.ok .next) ⟨rfl, by omega, hf⟩
  | succ k ih =>
    intro i s₀ s hk hi hj
    have hlt : i < n₀ := by omega
    show Seg _ A _ _ _ s₀ _ ((compTurn (.GeneratorExp elt [⟨tgt, iter, [], 0⟩] scope pos) 0 (.ref I) .none cenv).onRaise (leaving cenv)) [] s
    rw [compTurn_gen, Sem.onRaise_eq_wrap]
    refine seg_bind_wrap (wpAny_standAt (seg_bind_wrap (hnext i s _ _ hlt hj fun v s0 hv0 => ?_)))
    refine seg_bind_wrap (hgo i v s0 _ _ hv0 fun s1 hv => ?_)
    refine seg_bind_wrap (hasg i v s1 _ _ hv fun s2 hx => ?_)
    simp only [List.forIn_nil]
    refine seg_bind_wrap (wpAny_pure ?_)
    simp only [if_true]
    have hy : ∀ v, yieldOut cenv v = yieldValue v := fun v => by simp only [yieldOut, hco, Bool.false_eq_true, if_false]
    simp only [hy]
    rw [Sem.bind_eq_wrap', Sem.bind_eq_wrap', Sem.wrap_wrap, Sem.wrap_wrap]
    refine seg_wrap (helt i s2 _ _ hlt hx fun y s3 h3 => ?_)
    obtain ⟨m, hm⟩ : ∃ m, n₀ - i = m + 1 := ⟨n₀ - i - 1, by omega⟩
    rw [hm]
    have e1 : n₀ - 1 - m = i := by omega
    have e2 : n₀ - m = i + 1 := by omega
    refine seg_at (seg_yield rfl rfl rfl ?_)
    show protoT n₀ Jy J m s₀ y s3 _
    unfold protoT
    rw [e1, e2]
    refine ⟨h3, fun s4 h4 => ?_⟩
    have := ih (i + 1) s4 s4 (by omega) hlt h4
    rw [show n₀ - (i + 1) = m by omega] at this
    exact seg_again rfl this
theorem seg_startT {elt iter : Expr} {tgt : Expr} {scope : Scope} {pos : Pos} {I : Addr} {n₀ : Nat} {cenv : Env} {Jy : Nat → Value → Shared → Prop} {J : Nat → Shared → Prop} {Fin' : Shared → Prop}
    (loop : ∀ s₀ s, J 0 s → Seg (model prog w) A (fun n _ r s₁ => r = .ok .next ∧ (n = 0 ∧ Fin' s₁)) (protoT n₀ Jy J) n₀ s₀ (.compLoop (.GeneratorExp elt [⟨tgt, iter, [], 0⟩] scope pos) 0 (.ref I) .none cenv)
      ((model prog w).den (.compLoop (.GeneratorExp elt [⟨tgt, iter, [], 0⟩] scope pos) 0 (.ref I) .none cenv)) [] s)
    (hself : ∀ (A' : Around) s (Q : Value → Shared → Prop) (E : Value → Shared → Prop), J 0 s → Q (.ref I) s → wpAny (model prog w) A' (pyIter (.ref I)) Q E s) (s₀ s : Shared) (hj : J 0 s) :
    Seg (model prog w) A (fun n _ r s₁ => r = .ok .next ∧ (n = 0 ∧ Fin' s₁)) (protoT n₀ Jy J) n₀ s₀ (.compStart (.GeneratorExp elt [⟨tgt, iter, [], 0⟩] scope pos) 0 (.ref I) .none cenv)
      ((model prog w).den (.compStart (.GeneratorExp elt [⟨tgt, iter, [], 0⟩] scope pos) 0 (.ref I) .none cenv)) [] s := by
  show Seg _ A _ _ _ s₀ _ ((compStart (.GeneratorExp elt [⟨tgt, iter, [], 0⟩] scope pos) 0 (.ref I) .none cenv).onRaise (leaving cenv)) [] s
  unfold compStart
  rw [Sem.onRaise_eq_wrap]
  refine (show Seg _ A _ _ _ s₀ _ ((ask >>= _).wrap _ _ _ _) [] s from seg_bind_wrap (wpAny_askSetting ?_))
  split
  · exact seg_again rfl (loop s₀ s hj)
  · first
      | exact seg_bind_wrap (wpAny_rule (seg_bind_wrap (wpAny_standAt (seg_bind_wrap (hself _ s _ _ hj (seg_again rfl (loop s₀ s hj)))))))
      | (refine seg_bind_wrap (wpAny_rule ?_); refine (show Seg _ A _ _ _ s₀ _ ((standAt iter.pos >>= _).wrap _ _ _ _) [] s from ?_); exact seg_bind_wrap (wpAny_standAt (seg_bind_wrap (hself _ s _ _ hj (seg_again rfl (loop s₀ s hj))))))
/-- the generator ahead of its j-th value -/
def GenT (prog : Program) (w : World) (A : Around) (g : Nat) (n₀ : Nat) (Jy : Nat → Value → Shared → Prop) (J : Nat → Shared → Prop) (Fin' : Shared → Prop) (j : Nat) (s : Shared) : Prop :=
  J j s ∧ ∃ gs, s.gens[g]? = some gs ∧ ∀ s'', J j s'' → gs.Goes (model prog w) A.in1 (fun n _ r s₁ => r = .ok .next ∧ (n = 0 ∧ Fin' s₁)) (protoT n₀ Jy J) (n₀ - j) (.send .none) s''
theorem setGen_look {s : Shared} {g : Nat} {x : GenState} (h : g < s.gens.size) : (s.setGen g x).gens[g]? = some x := by
  have : s.gens[g]? = some s.gens[g] := Array.getElem?_eq_getElem h
  exact setGen_self this
theorem walk_genT {a : Addr} {g n₀ : Nat} {Y : Nat → Value → Prop} {J : Nat → Shared → Prop} {Fin' Fin : Shared → Prop} (hh : A.handled = none) (hroom : A.depth < recursionLimit)
    (hJ : ∀ j s, J j s → s.heap.IsGen a g ∧ s.heap.NoLimit) (hset : ∀ j s x, GenState.bare x = true → J j s → J j (s.setGen g x))
    (hfin : ∀ s₁ h', Fin' s₁ → (∀ b o, s₁.heap.get? b = some o → h'.get? b = some o) → Fin { s₁.setGen g .finished with heap := h' }) (hstop : ∀ j s, J j s → Fin s) :
    WalkT prog w A a n₀ Y (GenT prog w A g n₀ (fun i v s => Y i v ∧ J (i + 1) s) J Fin') Fin where
  item := fun j s Q E hj st hQ => by
    obtain ⟨hJs, gs, hgs, hgo⟩ := st
    obtain ⟨h1, h2⟩ := hJ j s hJs
    have h3 : g < s.gens.size := (Array.getElem?_eq_some_iff.mp hgs).1
    obtain ⟨m, hm⟩ : ∃ m, n₀ - j = m + 1 := ⟨n₀ - j - 1, by omega⟩
    rw [hm] at hgo
    refine GenW.wpAny_gsz (Nat.le_refl s.gens.size) ?_
    refine wpAny_pyNext_genexpQ (P := fun n _ s₁ => n = 0 ∧ Fin' s₁) hh h2 hroom h1 hgs (hgo _ (hset j s .running rfl hJs)) (fun v s₁ gs' hb hv hsz => ?_) (fun s₁ hp h' hk => absurd hp.1 (Nat.succ_ne_zero m))
    rw [GenW.setGen_size] at hsz
    obtain ⟨⟨ev, hJ1⟩, kap⟩ := hv
    have e1 : n₀ - 1 - (m + 1 - 1) = j := by omega
    have e2 : n₀ - (m + 1 - 1) = j + 1 := by omega
    rw [e1] at ev hJ1
    rw [e2] at kap
    refine hQ v _ ev ⟨hset _ _ _ hb hJ1, gs', setGen_look (Nat.lt_of_lt_of_le h3 hsz), fun s'' h => ?_⟩
    rw [show n₀ - (j + 1) = m by omega]
    exact kap s'' h
  done := fun s Q E st hQ => by
    obtain ⟨hJs, gs, hgs, hgo⟩ := st
    obtain ⟨h1, h2⟩ := hJ n₀ s hJs
    rw [Nat.sub_self] at hgo
    refine wpAny_pyNext_genexpQ (P := fun n _ s₁ => n = 0 ∧ Fin' s₁) hh h2 hroom h1 hgs (hgo _ (hset n₀ s .running rfl hJs)) (fun v s₁ gs' hb hv => ?_) (fun s₁ hp h' hk => hQ _ (hfin s₁ h' hp.2 hk))
    obtain ⟨⟨_, hJ1⟩, kap⟩ := hv
    have e0 : n₀ - 1 - (0 - 1) + 1 = n₀ - (0 - 1) ∨ n₀ = 0 := by omega
    rcases e0 with e0 | e0
    · rw [e0] at hJ1
      exact (kap s₁ hJ1).elim
    · subst e0
      exact (kap _ hJs).elim
  stop := fun j s hj st => hstop _ _ st.1
end
end G

namespace G
open PySem L2 PySem.Spec PyProof.Rows GxR NdefX
/-! ### all(e for t in it), any(..): a generator expression whose element calls defs -/
/-- the generator expression's names: the captured ones, then its own -/
structure GenOk (N fr : List Str) (js : List Nat) (sc osc : Scope) (XN : List Str) : Prop where
  kind : sc.kind = .function
  co : sc.isCoroutine = false
  pre : N.take fr.length = fr
  dot : sc.names.lookup (".0" : Str) = some NameKind.local
  nocell : ∀ y ∈ sc.names, y.2 ≠ .cell
  free : ∀ y ∈ sc.names, y.2 = .free → y.1 ∈ fr
  frk : ∀ x ∈ fr, sc.names.lookup x = some .free
  out : ∀ y ∈ sc.names, y.2 = .free → osc.names.lookup y.1 = some .cell ∨ osc.names.lookup y.1 = some .free
  at_ : js.map (fun j => XN[j]?) = fr.map some
def genB (N fr : List Str) (js : List Nat) (sc osc : Scope) (XN : List Str) : Bool :=
  decide (sc.kind = .function) && !sc.isCoroutine && decide (N.take fr.length = fr) && decide (sc.names.lookup (".0" : Str) = some NameKind.local) && sc.names.all (fun y => !decide (y.2 = .cell)) &&
    sc.names.all (fun y => !decide (y.2 = .free) || decide (y.1 ∈ fr)) && fr.all (fun x => decide (sc.names.lookup x = some .free)) &&
    sc.names.all (fun y => !decide (y.2 = .free) || (decide (osc.names.lookup y.1 = some .cell) || decide (osc.names.lookup y.1 = some .free))) && decide (js.map (fun j => XN[j]?) = fr.map some)
theorem genOk_by {N fr : List Str} {js : List Nat} {sc osc : Scope} {XN : List Str} (h : genB N fr js sc osc XN = true) : GenOk N fr js sc osc XN := by
  unfold genB at h
  simp only [Bool.and_eq_true, Bool.not_eq_true', decide_eq_true_eq, List.all_eq_true, Bool.or_eq_true, decide_eq_false_iff_not] at h
  obtain ⟨⟨⟨⟨⟨⟨⟨⟨h1, h2⟩, h3⟩, h4⟩, h5⟩, h6⟩, h7⟩, h8⟩, h9⟩ := h
  exact ⟨h1, h2, h3, h4, h5, fun y hy e => (h6 y hy).elim (fun z => absurd e z) id, h7, fun y hy e => (h8 y hy).elim (fun z => absurd e z) id, h9⟩
/-- the generator's frame -/
abbrev genv (X : Cx) (scope : Scope) (code : Value) (L : Addr) : Env := genEnv scope (cloFrom X.env.cells scope.names []) L code builtinsNs X.env
/-- the context of the element, of the target -/
abbrev gcx (X : Cx) (N : List Str) (scope : Scope) (A : Around) (code : Value) (fp : List Addr) (s4 : Shared) (H4 : Hp) : Cx where
  prog := X.prog
  w := X.w
  K := X.K
  mg := X.mg
  base := X.base
  A := A
  N := N
  s_0 := s4
  H_0 := H4
  env := genv X scope code s4.heap.objs.size
  outer := X.stack
  stack := genv X scope code s4.heap.objs.size :: X.stack
  ex := fp
  calm := true
  fn := fun _ => false
  pn := []
  xe := fun _ _ => False
section
variable {X : Cx} {pins : List (Addr × Obj)} {σ : L2.St} {H : Hp} {s s' : Shared} {N fr : List Str} {js : List Nat} {scope : Scope} {A : Around} {code : Value} {fp : List Addr}
theorem genFree (S : GenOk N fr js scope X.env.scope X.N) (ok : X.Ok) : ∀ y ∈ scope.names, y.2 = .free → ∃ c, X.env.cells.lookup y.1 = some c := fun y hy e => (S.out y hy e).elim (fun z => ok.has _ (.inl z)) fun z => ok.has _ (.inr z)
theorem inv_startG {a : Addr} {o : Obj} {m : Str → Option Value} (S : GenOk N fr js scope X.env.scope X.N) (I : Inv X pins σ H s) (hA : A.handled = none) (hfr : A.frames = some (genv X scope code s.heap.objs.size :: X.stack))
    (hfp : ∀ b ∈ fp, FpOk X pins H b ∧ b < s.heap.objs.size) (hns : s'.heap.Ns s.heap.objs.size m) (kp : ∀ b u, s.heap.get? b = some u → s'.heap.get? b = some u) (os : s'.os = s.os) (hb : AllBare s'.gens)
    (ha : s'.heap.get? a = some o) (hag : s.heap.objs.size < a) (hd : ∀ v, o.data ≠ .cell v) :
    Inv (gcx X N scope A code fp s H) [(a, o)] (startF N [] (js.map (slotAt σ))) H s' := by
  have hf := genFree S I.ok
  have cp : Caps X (cloFrom X.env.cells scope.names []) fr js := Caps.made I.ok S.out (fun y hy => PySem.mem_of_lookup (S.frk y hy)) S.at_
  have C := cells_of I cp
  have hpl : fr.length ≤ N.length := by
    have q := congrArg List.length S.pre
    rw [List.length_take] at q
    omega
  have cellK : ∀ {c : Addr} {v : Option Value}, s.heap.IsCell c v → s'.heap.IsCell c v := fun {c v} ⟨o, ho, hd⟩ => ⟨o, kp _ _ ho, hd⟩
  refine ⟨⟨I.ok.mod, S.kind, I.ok.glob, rfl, Nat.le_refl _, C.inj, fun y hy => ?_, fun y c z _ => ?_, fun _ => hA, hfr, .inr ⟨rfl, rfl⟩, fun b z => ⟨Nat.ne_of_lt (hfp b z).2, fun x c e q => ?_⟩, I.bs, Nat.le_trans I.ok.bsz I.sz, fun b o e z => ?_,
      fun b z q => ?_, I.stack, I.stkFree⟩,
    os, hb, Un.kept kp, ⟨_, hns, fun i y v e1 e2 e3 => ?_⟩, fun y c e => ?_, I.hok.fresh (Nat.le_refl _), fun y c e => (C.all y c e).1, fun q hq => ?_, I.hok.kept kp, ?_⟩
  · have hy : scope.names.lookup y = some .cell ∨ scope.names.lookup y = some .free := hy
    rcases hy with hy | hy
    · exact absurd rfl (S.nocell _ (PySem.mem_of_lookup hy))
    · obtain ⟨i, hi⟩ := List.mem_iff_getElem?.mp (S.free _ (PySem.mem_of_lookup hy) rfl)
      obtain ⟨c, hc, _⟩ := C.has i y hi
      exact ⟨c, hc⟩
  · have z : false = true := z
    cases z
  · exact (hfp b z).1.2.2.2.2.1 x c (cp.sub x c e) q
  · have hl : b < X.base.objs.size := Heap.lt_size e
    rcases (hfp b z).1.2.2.2.1 with q | q
    · exact I.ok.noex b o e q
    · exact Nat.lt_irrefl _ (Nat.lt_of_lt_of_le hl (Nat.le_trans I.ok.bsz q))
  · rcases List.mem_cons.mp (I.stkSub b q) with q | q
    · exact (hfp b z).1.2.1 q
    · exact (hfp b z).1.2.2.1 q
  · have e1 : N[i]? = some y := e1
    have clen := C.len
    unfold startF at e2
    rw [List.map_nil, List.nil_append, List.length_nil] at e2
    by_cases h2 : i < fr.length
    · have hq : fr[i]? = some y := by
        rw [← S.pre, List.getElem?_take_of_lt h2]
        exact e1
      rw [List.getElem?_append_left (by omega)] at e2
      obtain ⟨c, hc, hv⟩ := C.has i y hq
      obtain ⟨u, ru, hu⟩ := hv v e2
      exact ⟨u, ru, .inr ⟨.inr (S.frk y (List.mem_of_getElem? hq)), c, hc, cellK hu⟩⟩
    · rw [List.getElem?_append_right (by omega), List.getElem?_replicate] at e2
      split at e2 <;> cases e2
  · obtain ⟨v, z⟩ := (C.all y c e).2
    exact ⟨v, cellK z⟩
  · have hq : q = (a, o) := by simpa using hq
    subst hq
    refine ⟨ha, I.hok.fresh (Nat.le_of_lt hag), Nat.ne_of_gt hag, fun z => ?_, hd⟩
    rcases List.mem_cons.mp (I.stkSub a z) with q | q
    · have hl := I.lt
      rw [← q] at hl
      exact Nat.lt_irrefl _ (Nat.lt_trans hl hag)
    · exact I.nofs (Nat.le_of_lt hag) q
  · have clen := C.len
    unfold startF
    show _ = N.length
    rw [List.length_append, List.length_append, List.length_map, List.length_replicate, List.length_nil]
    omega
/-- the outer frame's facts behind what the generator did -/
theorem inv_outG {pins' : List (Addr × Obj)} {σ' : L2.St} {H' : Hp} (I : Inv X pins σ H s) (hfp : ∀ b ∈ fp, FpOk X pins H b) (J : Inv (gcx X N scope A code fp s H) pins' σ' H' s') : Inv X pins σ H' s' := by
  have u : Un (frs X.stack) fp H H' s.heap s'.heap := J.base
  exact I.call' J.os u J.hok J.bare fun b hb => let ⟨_, h1, _, h2, h3, h4⟩ := hfp b hb; ⟨h2, h1, h3, h4⟩
theorem gensB_inv {g' : Array GenState} (I : Inv X pins σ H s) (hb : AllBare g') : Inv X pins σ H { s with gens := g' } :=
  I.call (ch := []) (h' := s.heap) (g' := g') (d' := s.drawn) (t' := s.toks) Un.refl I.hok hb (fun b z => absurd z (by simp))
theorem bare_setGen {s : Shared} {g : Nat} {x : GenState} (h : AllBare s.gens) (hx : x.bare = true) : AllBare (s.setGen g x).gens := by
  intro y hy
  have hy : y ∈ s.gens.setIfInBounds g x := hy
  rcases Array.mem_or_eq_of_mem_setIfInBounds hy with z | z
  · exact h y z
  · rw [z]; exact hx
theorem inv_setGen {g : Nat} {x : GenState} (I : Inv X pins σ H s) (hx : x.bare = true) : Inv X pins σ H (s.setGen g x) := gensB_inv I (bare_setGen I.bare hx)
end
/-- how the turns go -/
def Turns (J : It) (g : TG) (te : TE) (n : Nat) (vs : Nat → V) (W : Nat → L2.St → Hp → Prop) : Prop :=
  (∀ i σ H, i < n → W i σ H → J.go i H ∧ ∀ x H1, J.yld i H x H1 → g x σ H1 fun σ2 H2 => te σ2 H2 fun y H3 => y = vs i ∧ W (i + 1) σ2 H3) ∧ ∀ σ H, W n σ H → J.stop n H
section
variable {X : Cx} {pins : List (Addr × Obj)} {σ : L2.St} {H : Hp} {s : Shared} {N fr : List Str} {js : List Nat}
theorem room_over {k : Nat} {A : Around} (hr : Room (k + 1) A) {e : Expr} {gs : List Comprehension} {sc : Scope} {p : Pos} {u v : Value} {cenv : Env} : Room k (A.in1.in1.over (.compLoop (.GeneratorExp e gs sc p) 0 u v cenv) []) := by
  have h1 := hr.dp
  have h2 := hr.un
  have e1 : (A.in1.in1.over (.compLoop (.GeneratorExp e gs sc p) 0 u v cenv) []).depth = A.depth + 1 := rfl
  have e2 : (A.in1.in1.over (.compLoop (.GeneratorExp e gs sc p) 0 u v cenv) []).units = A.units + 5 := rfl
  exact ⟨hr.hd, by omega, by omega⟩
theorem over_frames {A : Around} {l : List Env} (h : A.frames = some l) {e : Expr} {gs : List Comprehension} {sc : Scope} {p : Pos} {u v : Value} {cenv : Env} : (A.in1.in1.over (.compLoop (.GeneratorExp e gs sc p) 0 u v cenv) []).frames = some (cenv :: l) := by
  have h0 : A.in1.in1.frames = some l := h
  show pushEnvs (Code.compLoop (.GeneratorExp e gs sc p) 0 u v cenv).envs (pushEnvs (envsOf []) A.in1.in1.frames) = _
  rw [h0]
  rfl
theorem gen_made {c P : Addr} {elt iter tgt : Expr} {scope : Scope} {gpos : Pos} {wi : TI} {g : TG} {te : TE} {k : Nat} {R : Nat → (Nat → V) → Hp → Prop} {Q' : Value → Shared → Prop}
    (hr : Room (k + 1) X.A) (TB : TabB X.base X.mg c P) (hcode : X.env.code = .ref c) (S : GenOk N fr js scope X.env.scope X.N) (hi : PI X tgt iter wi)
    (hg : ∀ A code fp s4 H4, Room k A → PG (gcx X N scope A code fp s4 H4) tgt g) (he : ∀ A code fp s4 H4, Room k A → PE (gcx X N scope A code fp s4 H4) elt te)
    (hs : ∀ v, genFold iter X.env v = pure v) (I : Inv X pins σ H s)
    (h : wi σ H fun J H1 => TabG H1 P ∧ ∀ H2, Tabbed P H1 H2 → ∃ n vs W, W 0 (startF N [] (js.map (slotAt σ))) H2 ∧ Turns J g te n vs W ∧ ∀ i σ' H', i ≤ n → W i σ' H' → R n vs H')
    (hQ : ∀ a gn n vs St s5, WalkT X.prog X.w X.A.in1 a n (fun i v => RelV (vs i) v) St (fun s' => ∃ H', Inv X pins σ H' s' ∧ R n vs H') → St 0 s5 → s5.heap.IsGen a gn → (∃ H0, R n vs H0) → Q' (.ref a) s5) :
    wpAny (model X.prog X.w) X.A (eval (.GeneratorExp elt [⟨tgt, iter, [], 0⟩] scope gpos) X.env) Q' X.xe s := by
  refine wpAny_GeneratorExp_make S.co (closure_ok (genFree S I.ok)) S.nocell S.dot S.kind (by have := hr.dp; omega) ?_ hs
  refine thn (hi.run pins s σ H _ I h) fun xv s1 h1 => thn h1 fun itv s2 h2 => ?_
  obtain ⟨it, fp, tn, J, H2, e, I2, T, st2, f2, ⟨ps, hP, ht⟩, q2⟩ := h2
  subst e
  refine ⟨I2.nolimit, ?_⟩
  have hPs : s2.heap.get? P = some { cls := .none, data := .fields ps } := I2.hok P _ hP
  have cd : PySem.W.CodeHd s2.heap c P := TB.code.keeps I2.bk
  have fpP : ∀ b ∈ fp, b ≠ P := fun b hb z => by
    have q := (f2 b hb).1
    rw [z, hP] at q
    cases q
  have cont : ∀ (code : Value) (h3 : Heap) (tk : Nat) (ps' : Array Value), Heap.ExtBut P s2.heap h3 → h3.get? P = some { cls := .none, data := .fields ps' } → (∃ more, ps' = ps ++ more) → TriplesOk ps'.toList →
      wpAny (model X.prog X.w) X.A (builtinsFor X.env.globals X.env.builtins) (fun bi s₄ =>
        ∀ h', h'.Ns s₄.heap.objs.size (fun y => if y = ".0" then some (.ref it) else none) → Heap.SameBut s₄.heap.objs.size (s₄.heap.push { cls := .type "frame", data := .dict #[] }) h' →
          Q' (.ref h'.objs.size) { s₄ with
            gens := s₄.gens.push (.fresh (.compStart (.GeneratorExp elt [⟨tgt, iter, [], 0⟩] scope gpos) 0 (.ref it) .none (genEnv scope (cloFrom X.env.cells scope.names []) s₄.heap.objs.size code bi X.env))),
            toks := s₄.toks + 1 + 1 + 1,
            heap := h'.push { cls := .type "generator", data := .fields #[.int s₄.gens.size 0, .str "<genexpr>" (s₄.toks + 1), .str (X.env.qual ++ "<genexpr>") (s₄.toks + 1 + 1)] } }) X.xe { s2 with heap := h3, toks := tk } := by
    intro code h3 tk ps' hx hP3 hmore ht3
    obtain ⟨more, rfl⟩ := hmore
    obtain ⟨bm, ob, e1, e2, e3, e4, e5, e6, e7, e8⟩ := TB.bm
    refine wpAny_builtinsFor (m := X.mg) (by rw [I2.ok.glob]; exact (I2.mod.glob.keeps I2.bk).extBut hx TB.gP) e1 e2 (hx _ _ e4 (I2.bk _ _ e5)) e6 e7 e8 ?_
    have I3 : Inv X pins σ (upd H2 P (.tbl (ps ++ more))) { s2 with heap := h3, toks := tk } := inv_tab (g' := s2.gens) (d' := s2.drawn) (t' := tk) (h' := h3) I2 hP (fun b o hb e => hx b o hb e) hP3 I2.bare
    obtain ⟨n, vs, W, w0, ⟨step, stop⟩, fin⟩ := q2 _ ⟨⟨ps ++ more, upd_same, ht3⟩, fun b hb => upd_ne hb⟩
    intro h' hn' hs'
    have hsz : h'.objs.size = h3.objs.size + 1 := by rw [hs'.1, Heap.size_push]
    have kp5 : ∀ b u, h3.get? b = some u → (h'.push { cls := .type "generator", data := .fields #[.int s2.gens.size 0, .str "<genexpr>" (tk + 1), .str (X.env.qual ++ "<genexpr>") (tk + 1 + 1)] }).get? b = some u :=
      fun b o e => Heap.get?_push_of_some _ (hs'.extBut b o (Nat.ne_of_lt (Heap.lt_size e)) (Heap.get?_push_of_some _ e))
    have hfp : ∀ b ∈ fp, FpOk X pins (upd H2 P (.tbl (ps ++ more))) b ∧ b < h3.objs.size := fun b hb => by
      refine ⟨⟨by rw [upd_ne (fpP b hb)]; exact (f2 b hb).1, (f2 b hb).2⟩, ?_⟩
      obtain ⟨o, eo, _⟩ := T.obj 0 _ st2 b hb
      exact Heap.lt_size (hx b o (fpP b hb) eo)
    have st3 : tn 0 h3 := T.keep 0 _ _ st2 fun b hb o e => hx b o (fpP b hb) e
    have hbare : AllBare (s2.gens.push (.fresh (.compStart (.GeneratorExp elt [⟨tgt, iter, [], 0⟩] scope gpos) 0 (.ref it) .none (genv X scope code h3.objs.size)))) := I2.bare.push rfl
    have hA1 := room_over hr (e := elt) (gs := [⟨tgt, iter, [], 0⟩]) (sc := scope) (p := gpos) (u := .ref it) (v := .none) (cenv := genv X scope code h3.objs.size)
    have hfr1 := over_frames I2.ok.frames (e := elt) (gs := [⟨tgt, iter, [], 0⟩]) (sc := scope) (p := gpos) (u := .ref it) (v := .none) (cenv := genv X scope code h3.objs.size)
    generalize hA : X.A.in1.in1.over (.compLoop (.GeneratorExp elt [⟨tgt, iter, [], 0⟩] scope gpos) 0 (.ref it) .none (genv X scope code h3.objs.size)) [] = A1 at hA1 hfr1
    have hget : (h'.push { cls := .type "generator", data := .fields #[.int s2.gens.size 0, .str "<genexpr>" (tk + 1), .str (X.env.qual ++ "<genexpr>") (tk + 1 + 1)] }).get? h'.objs.size = some ({ cls := .type "generator", data := .fields #[.int s2.gens.size 0, .str "<genexpr>" (tk + 1), .str (X.env.qual ++ "<genexpr>") (tk + 1 + 1)] } : Obj) := Heap.get?_push_size _ rfl
    have Ig := inv_startG (N := N) (fr := fr) (js := js) (code := code) (fp := fp) (A := A1) (a := h'.objs.size)
      (s' := { s2 with gens := s2.gens.push (.fresh (.compStart (.GeneratorExp elt [⟨tgt, iter, [], 0⟩] scope gpos) 0 (.ref it) .none (genv X scope code h3.objs.size))), toks := tk + 1 + 1 + 1, heap := h'.push { cls := .type "generator", data := .fields #[.int s2.gens.size 0, .str "<genexpr>" (tk + 1), .str (X.env.qual ++ "<genexpr>") (tk + 1 + 1)] } })
      S I3 hA1.hd hfr1 hfp (hn'.push _) kp5 rfl hbare hget (by rw [hsz]; exact Nat.lt_succ_self _) (fun v z => by cases z)
    have gok := Ig.ok
    have fpg : ∀ {Hj : Hp}, (∀ b ∈ fp, Hj b = none) → ∀ b ∈ fp, FpOk (gcx X N scope A1 code fp { s2 with heap := h3, toks := tk } (upd H2 P (.tbl (ps ++ more)))) [(h'.objs.size, { cls := .type "generator", data := .fields #[.int s2.gens.size 0, .str "<genexpr>" (tk + 1), .str (X.env.qual ++ "<genexpr>") (tk + 1 + 1)] })] Hj b := fun {Hj} hn b hb => by
      refine ⟨hn b hb, (gok.exf b hb).1, gok.exfs b hb, .inl hb, (gok.exf b hb).2, fun p hp => ?_⟩
      have e1 : p.1 = h'.objs.size := by
        rcases List.mem_cons.mp hp with z | z
        · rw [z]
        · cases z
      rw [e1, hsz]
      exact Nat.ne_of_gt (Nat.lt_succ_of_lt (hfp b hb).2)
    have hout : ∀ {pins' : List (Addr × Obj)} {σ' : L2.St} {H' : Hp} {s' : Shared}, Inv (gcx X N scope A1 code fp { s2 with heap := h3, toks := tk } (upd H2 P (.tbl (ps ++ more)))) pins' σ' H' s' → Inv X pins σ H' s' := fun {_ _ _ _} j => inv_outG I3 (fun b hb => (hfp b hb).1) j
    refine hQ h'.objs.size s2.gens.size n vs (GenT X.prog X.w X.A.in1 s2.gens.size n (fun i v s => RelV (vs i) v ∧ ∃ σg Hj, Inv (gcx X N scope A1 code fp { s2 with heap := h3, toks := tk } (upd H2 P (.tbl (ps ++ more)))) [(h'.objs.size, { cls := .type "generator", data := .fields #[.int s2.gens.size 0, .str "<genexpr>" (tk + 1), .str (X.env.qual ++ "<genexpr>") (tk + 1 + 1)] })] σg Hj s ∧ tn (i + 1) s.heap ∧ (∀ b ∈ fp, Hj b = none) ∧ i + 1 ≤ n ∧ W (i + 1) σg Hj)
        (fun j s => ∃ σg Hj, Inv (gcx X N scope A1 code fp { s2 with heap := h3, toks := tk } (upd H2 P (.tbl (ps ++ more)))) [(h'.objs.size, { cls := .type "generator", data := .fields #[.int s2.gens.size 0, .str "<genexpr>" (tk + 1), .str (X.env.qual ++ "<genexpr>") (tk + 1 + 1)] })] σg Hj s ∧ tn j s.heap ∧ (∀ b ∈ fp, Hj b = none) ∧ j ≤ n ∧ W j σg Hj)
        (fun s => ∃ σg Hj, Inv (gcx X N scope A1 code fp { s2 with heap := h3, toks := tk } (upd H2 P (.tbl (ps ++ more)))) [(h'.objs.size, { cls := .type "generator", data := .fields #[.int s2.gens.size 0, .str "<genexpr>" (tk + 1), .str (X.env.qual ++ "<genexpr>") (tk + 1 + 1)] })] σg Hj s ∧ W n σg Hj)) _ ?_ ?_ ?_ ⟨_, fin 0 _ _ (Nat.zero_le _) w0⟩
    · refine walk_genT hr.hd hr.depth ?_ ?_ ?_ ?_
      · rintro j s9 ⟨σg, Hj, Ij, _⟩
        obtain ⟨e9, _⟩ := Ij.pin _ (List.mem_append_right _ List.mem_cons_self)
        exact ⟨⟨_, _, _, e9, rfl, rfl, rfl⟩, Ij.nolimit⟩
      · rintro j s9 x hx9 ⟨σg, Hj, Ij, r9⟩
        exact ⟨σg, Hj, inv_setGen Ij hx9, r9⟩
      · rintro s9 h9 ⟨σg, Hj, Ij, w9⟩ kp9
        have q := (inv_setGen (g := s2.gens.size) (x := .finished) Ij rfl).kept (t' := s9.toks) (h' := h9) kp9
        exact ⟨Hj, hout q, fin n σg Hj (Nat.le_refl _) w9⟩
      · rintro j s9 ⟨σg, Hj, Ij, _, _, hj9, w9⟩
        exact ⟨Hj, hout Ij, fin j σg Hj hj9 w9⟩
    · have hJ0 : ∃ σg Hj, Inv (gcx X N scope A1 code fp { s2 with heap := h3, toks := tk } (upd H2 P (.tbl (ps ++ more)))) _ σg Hj _ ∧ tn 0 _ ∧ (∀ b ∈ fp, Hj b = none) ∧ 0 ≤ n ∧ W 0 σg Hj := ⟨_, _, Ig, T.keep 0 _ _ st3 fun b hb o e => kp5 b o e, fun b hb => (hfp b hb).1.1, Nat.zero_le _, w0⟩
      refine ⟨hJ0, _, Array.getElem?_push_size .., fun s8 hJ8 => ⟨rfl, ?_⟩⟩
      refine seg_startT ?_ ?_ s8 s8 hJ8
      · intro s₀ s7 hJ7
        refine seg_loopT (Jn := fun i v s => wpAny (model X.prog X.w) A1 (letOwnedTupleGo tgt (.ref it) v) (fun _ s2' => ∃ x σg Hj, Inv (gcx X N scope A1 code fp { s2 with heap := h3, toks := tk } (upd H2 P (.tbl (ps ++ more)))) [(h'.objs.size, { cls := .type "generator", data := .fields #[.int s2.gens.size 0, .str "<genexpr>" (tk + 1), .str (X.env.qual ++ "<genexpr>") (tk + 1 + 1)] })] σg Hj s2' ∧ RelV x v ∧ tn (i + 1) s2'.heap ∧ (∀ b ∈ fp, Hj b = none) ∧ i < n ∧ g x σg Hj fun σ2 H2 => te σ2 H2 fun y H3 => y = vs i ∧ W (i + 1) σ2 H3) (fun _ _ => False) s)
          (Jv := fun i v s2' => ∃ x σg Hj, Inv (gcx X N scope A1 code fp { s2 with heap := h3, toks := tk } (upd H2 P (.tbl (ps ++ more)))) [(h'.objs.size, { cls := .type "generator", data := .fields #[.int s2.gens.size 0, .str "<genexpr>" (tk + 1), .str (X.env.qual ++ "<genexpr>") (tk + 1 + 1)] })] σg Hj s2' ∧ RelV x v ∧ tn (i + 1) s2'.heap ∧ (∀ b ∈ fp, Hj b = none) ∧ i < n ∧ g x σg Hj fun σ2 H2 => te σ2 H2 fun y H3 => y = vs i ∧ W (i + 1) σ2 H3)
          (Jx := fun i s3 => ∃ σg Hj hq, Inv (gcx X N scope A1 code fp { s2 with heap := h3, toks := tk } (upd H2 P (.tbl (ps ++ more)))) ([(h'.objs.size, { cls := .type "generator", data := .fields #[.int s2.gens.size 0, .str "<genexpr>" (tk + 1), .str (X.env.qual ++ "<genexpr>") (tk + 1 + 1)] })] ++ pinsAt fp hq) σg Hj s3 ∧ tn (i + 1) hq ∧ te σg Hj fun y H3 => y = vs i ∧ W (i + 1) σg H3)
          rfl S.co ?_ ?_ ?_ ?_ ?_ n 0 s₀ s7 rfl (Nat.zero_le _) hJ7
        · rw [hA]
          rintro i s9 Q E hi9 ⟨σg, Hj, Ij, st9, fr9, _, w9⟩ hQ9
          obtain ⟨go, y9⟩ := step i σg Hj hi9 w9
          refine wpAny_mono (T.item (gcx X N scope A1 code fp { s2 with heap := h3, toks := tk } (upd H2 P (.tbl (ps ++ more)))) rfl rfl rfl rfl i _ s9 σg Hj (fun _ _ => False) Ij (fpg fr9) st9 go) (fun r s1' h1' => ?_) fun _ _ z => z.elim
          obtain ⟨u, rfl, h1'⟩ := h1'
          refine hQ9 u s1' (wpAny_mono h1' (fun _ s2' h2' => ?_) fun _ _ z => z)
          obtain ⟨x, H', I', r', yl, st', fr'⟩ := h2'
          exact ⟨x, σg, H', I', r', st', fr', hi9, y9 x H' yl⟩
        · rw [hA]
          intro i v s9 Q E h9 hQ9
          exact wpAny_mono h9 (fun _ s' h' => hQ9 s' h') fun _ _ z => z.elim
        · rw [hA]
          rintro s9 Q E ⟨σg, Hj, Ij, st9, fr9, _, w9⟩ hQ9
          refine wpAny_mono (T.done (gcx X N scope A1 code fp { s2 with heap := h3, toks := tk } (upd H2 P (.tbl (ps ++ more)))) rfl rfl rfl rfl n _ s9 σg Hj (fun _ _ => False) Ij (fpg fr9) st9 (stop σg Hj w9)) (fun r s1' h1' => ?_) fun _ _ z => z.elim
          obtain ⟨rfl, I'⟩ := h1'
          exact hQ9 s1' ⟨σg, Hj, I', w9⟩
        · rw [hA]
          rintro i v s9 Q E ⟨x, σg, Hj, Ij, r9, st9, fr9, hi9, g9⟩ hQ9
          have I5 := Ij.pinned (fpg fr9) (T.obj _ _ st9)
          refine wpAny_mono ((hg A1 code fp _ _ hA1).run _ s9 σg Hj x v _ I5 r9 g9) (fun _ s6 h6 => ?_) fun _ _ z => z.elim
          obtain ⟨σ6, H6, I6, q6⟩ := h6
          exact hQ9 s6 ⟨σ6, H6, s9.heap, I6, st9, q6⟩
        · rw [hA]
          rintro i s9 Q E hi9 ⟨σg, Hj, hq, Ij, st9, t9⟩ hQ9
          refine wpAny_mono ((he A1 code fp _ _ hA1).run _ s9 σg Hj _ Ij t9) (fun u s6 h6 => ?_) fun _ _ z => z.elim
          obtain ⟨y, H6, I6, r6, ey, w6⟩ := h6
          subst ey
          refine hQ9 u s6 ⟨r6, σg, H6, I6.unpinned, T.keep _ _ _ st9 fun b hb o e => (I6.pin (b, o) (List.mem_append_right _ (List.mem_append_right _ (mem_pinsAt hb e)))).1, fun b hb => ?_, hi9, w6⟩
          obtain ⟨o, e, d⟩ := T.obj _ _ st9 b hb
          exact (I6.pin (b, o) (List.mem_append_right _ (List.mem_append_right _ (mem_pinsAt hb e)))).2.1
      · rintro A' s9 Q E ⟨σg, Hj, Ij, st9, _⟩ q9
        exact T.self A' 0 s9 Q E st9 q9
    · exact ⟨_, _, _, hget, rfl, rfl, rfl⟩
  cases hf : codeAmong gpos ps.toList with
  | none =>
    refine wpAny_genexprCodeX hcode (cd.code hPs ht) (cd.tab hPs) hf fun c' h' tk hx hge hlt hco' _ htab' _ => ?_
    obtain ⟨o1, vs, f1, tf, fl, tg, inF, tx, tt, op, _, _, _, _, _, _, _, _, _, htr, _⟩ := hco'
    exact cont _ h' tk _ hx htab'.2 ⟨_, rfl⟩ htr
  | some cv =>
    refine wpAny_genexprCode_hit hcode (cd.code hPs ht) hf ?_
    exact cont cv s2.heap s2.toks ps (Heap.ExtBut.refl _ _) hPs ⟨#[], by simp⟩ ht
end
/-- what takes a generator expression: P the def's table of code objects, js: where the captured names stand, Rw: what is told of n values vs -/
def tGenG (P : Addr) (wi : TI) (g : TG) (te : TE) (N : List Str) (js : List Nat) (Rw : Nat → (Nat → V) → VK → Hp → Prop) : TE := fun σ H Q => wi σ H fun J H1 => TabG H1 P ∧ ∀ H2, Tabbed P H1 H2 →
  ∃ (n : Nat) (vs : Nat → V) (W : Nat → L2.St → Hp → Prop), W 0 (startF N [] (js.map (slotAt σ))) H2 ∧ Turns J g te n vs W ∧ ∀ i σ' H', i ≤ n → W i σ' H' → Rw n vs Q H'
def allW (n : Nat) (vs : Nat → V) (Q : VK) (H : Hp) : Prop := ∃ tr : Nat → Bool, vs = (fun i => .bl (tr i)) ∧ Q (.bl ((List.range n).all tr)) H
def anyW (n : Nat) (vs : Nat → V) (Q : VK) (H : Hp) : Prop := ∃ tr : Nat → Bool, vs = (fun i => .bl (tr i)) ∧ Q (.bl ((List.range n).any tr)) H
theorem pe_allG {X : Cx} {N fr : List Str} {js : List Nat} {c P : Addr} {elt iter tgt : Expr} {scope : Scope} {p pos gpos : Pos} {wi : TI} {g : TG} {te : TE} {k : Nat}
    (hr : Room (k + 1) X.A) (hG : Gl X "all") (hm : X.mg "all" = none) (TB : TabB X.base X.mg c P) (hcode : X.env.code = .ref c) (S : GenOk N fr js scope X.env.scope X.N) (hi : PI X tgt iter wi)
    (hg : ∀ A code fp s4 H4, Room k A → PG (gcx X N scope A code fp s4 H4) tgt g) (he : ∀ A code fp s4 H4, Room k A → PE (gcx X N scope A code fp s4 H4) elt te)
    (hs : ∀ v, genFold iter X.env v = pure v := by intro _; rfl)
    (hst : starEach [.GeneratorExp elt [⟨tgt, iter, [], 0⟩] scope gpos] X.env = (false, eval (.GeneratorExp elt [⟨tgt, iter, [], 0⟩] scope gpos) X.env) :: starEach [] X.env := by rfl) :
    PE X (.Call (.Name "all" p) [.GeneratorExp elt [⟨tgt, iter, [], 0⟩] scope gpos] [] pos) (tGenG P wi g te N js allW) := by
  refine ⟨fun pins s σ H Q I h => ?_⟩
  refine wpAny_Call_Name_kw (ld_blt I hG hm (u := .builtin "all") (by decide +kernel) ?_)
  refine PyProof.Rows.callWith_builtin1 ?_ hst (by rfl)
  rw [hst]
  show wpAny _ _ (spliced ((false, eval (.GeneratorExp elt [⟨tgt, iter, [], 0⟩] scope gpos) X.env) :: backTo pos (starEach [] X.env))) _ _ s
  refine Calls.spliced_cons (gen_made (R := fun n vs H' => allW n vs Q H') hr TB hcode S hi hg he hs I h fun a gn n vs St s5 W hst5 hg5 hR0 => ?_)
  refine Calls.spliced_nil ?_
  refine call_allT (wpAny_pyIter_gen hg5 ?_)
  obtain ⟨_, tr, rfl, _⟩ := hR0
  refine ⟨a, n, tr, St, _, rfl, W, hst5, fun s' ⟨H', I', tr', e', q'⟩ => ⟨.bl _, H', I', rfl, ?_⟩⟩
  have e2 : tr = tr' := by
    funext i
    have := congrFun e' i
    injection this
  rw [e2]
  exact q'
theorem pe_anyG {X : Cx} {N fr : List Str} {js : List Nat} {c P : Addr} {elt iter tgt : Expr} {scope : Scope} {p pos gpos : Pos} {wi : TI} {g : TG} {te : TE} {k : Nat}
    (hr : Room (k + 1) X.A) (hG : Gl X "any") (hm : X.mg "any" = none) (TB : TabB X.base X.mg c P) (hcode : X.env.code = .ref c) (S : GenOk N fr js scope X.env.scope X.N) (hi : PI X tgt iter wi)
    (hg : ∀ A code fp s4 H4, Room k A → PG (gcx X N scope A code fp s4 H4) tgt g) (he : ∀ A code fp s4 H4, Room k A → PE (gcx X N scope A code fp s4 H4) elt te)
    (hs : ∀ v, genFold iter X.env v = pure v := by intro _; rfl)
    (hst : starEach [.GeneratorExp elt [⟨tgt, iter, [], 0⟩] scope gpos] X.env = (false, eval (.GeneratorExp elt [⟨tgt, iter, [], 0⟩] scope gpos) X.env) :: starEach [] X.env := by rfl) :
    PE X (.Call (.Name "any" p) [.GeneratorExp elt [⟨tgt, iter, [], 0⟩] scope gpos] [] pos) (tGenG P wi g te N js anyW) := by
  refine ⟨fun pins s σ H Q I h => ?_⟩
  refine wpAny_Call_Name_kw (ld_blt I hG hm (u := .builtin "any") (by decide +kernel) ?_)
  refine PyProof.Rows.callWith_builtin1 ?_ hst (by rfl)
  rw [hst]
  show wpAny _ _ (spliced ((false, eval (.GeneratorExp elt [⟨tgt, iter, [], 0⟩] scope gpos) X.env) :: backTo pos (starEach [] X.env))) _ _ s
  refine Calls.spliced_cons (gen_made (R := fun n vs H' => anyW n vs Q H') hr TB hcode S hi hg he hs I h fun a gn n vs St s5 W hst5 hg5 hR0 => ?_)
  refine Calls.spliced_nil ?_
  refine call_anyT (wpAny_pyIter_gen hg5 ?_)
  obtain ⟨_, tr, rfl, _⟩ := hR0
  refine ⟨a, n, tr, St, _, rfl, W, hst5, fun s' ⟨H', I', tr', e', q'⟩ => ⟨.bl _, H', I', rfl, ?_⟩⟩
  have e2 : tr = tr' := by
    funext i
    have := congrFun e' i
    injection this
  rw [e2]
  exact q'
end G

namespace G
open PySem L2 RT PySem.Spec PyProof.Rows GxR NdefX
/-! ### all, any of a generator expression: the readings -/
section
variable {K : PySem.W.Frag} {T : List Tb} {C : CC K T} {S : SS} {F : FP} {P : SV → FP → Prop} {te : TE}
def slotS (S : SS) (j : Nat) : Option SV := match S[j]? with
  | some o => o
  | none => none
/-- the names at a generator's start -/
def startS (N : List Str) (js : List Nat) (S : SS) : SS := js.map (slotS S) ++ List.replicate (N.length - js.length) none
theorem rs_startS {H : Hp} {S : SS} {σ : L2.St} {N : List Str} {js : List Nat} (h : RS K H S σ) : RS K H (startS N js S) (startF N [] (js.map (slotAt σ))) := by
  unfold startS startF
  rw [List.map_nil, List.nil_append, List.length_nil, Nat.sub_zero, List.length_map]
  have e : ∀ k, RS K H (List.replicate k none) (List.replicate k none) := fun k => by
    induction k with
    | zero => exact .nil
    | succ k ih => exact .cons (fun x e => by cases e) ih
  generalize N.length - js.length = m
  induction js with
  | nil => exact e m
  | cons j js ih =>
    refine .cons (fun x ex => ?_) ih
    unfold slotS at ex
    cases e1 : S[j]? with
    | none => rw [e1] at ex; cases ex
    | some o =>
      rw [e1] at ex
      have ex : o = some x := ex
      subst ex
      obtain ⟨v, e2, r⟩ := h.get e1
      exact ⟨v, slotAt_of e2, r⟩
/-- what S0 tells S2 tells too -/
def KeepS : SS → SS → Prop
  | [], [] => True
  | none :: a, _ :: b => KeepS a b
  | some x :: a, y :: b => y = some x ∧ KeepS a b
  | _, _ => False
theorem RS.keepS {H : Hp} : ∀ {S0 S2 : SS} {σ : L2.St}, KeepS S0 S2 → RS K H S2 σ → RS K H S0 σ
  | [], [], _, _, h => h
  | none :: a, _ :: b, _, k, .cons r t => .cons (fun x e => by cases e) (RS.keepS (S0 := a) (S2 := b) k t)
  | some x :: a, y :: b, _, k, .cons r t => .cons (fun z e => by cases e; exact r x k.1) (RS.keepS (S0 := a) (S2 := b) k.2 t)
  | [], _ :: _, _, k, _ => k.elim
  | some _ :: _, [], _, k, _ => k.elim
  | none :: _, [], _, k, _ => k.elim
/-- the def's table of generator expressions -/
def TabOne (T : List Tb) (Pt : Addr) : Prop := (Pt, none) ∈ T ∧ ∀ q, (Pt, some q) ∉ T
theorem As.tabbed {Pt : Addr} {H H2 : Hp} (a : As C F H) (hP : TabOne T Pt) (t : Tabbed Pt H H2) : Ev C F H F H2 ∧ As C F H2 := by
  obtain ⟨t1, t2⟩ := t
  obtain ⟨hP, hU⟩ := hP
  have ne : ∀ b, b ∉ keysT T → H2 b = H b := fun b hb => t2 b fun e => hb (by rw [e]; exact List.mem_map.mpr ⟨_, hP, rfl⟩)
  have ev : Ev C F H F H2 := fun b o h => by
    obtain ⟨⟨h1, h2, h3⟩, h4⟩ := hid_some.mp h
    exact hid_some.mpr ⟨⟨h1, h2, h3⟩, by rw [ne b h2]; exact h4⟩
  refine ⟨ev, fun b o h1 h2 h3 => by rw [ne b h2]; exact a.ex b o h1 h2 h3, fun Q hQ => ?_, a.nd, a.own, fun p hp => (a.mem p hp).sub ev (ne _ (a.own p.1 (List.mem_map.mpr ⟨p, hp, rfl⟩)).1)⟩
  by_cases e : Q.1 = Pt
  · have : Q.2 = none := by
      cases h : Q.2 with
      | none => rfl
      | some q => exact absurd (by rw [← e, ← h]; exact hQ) (hU q)
    unfold TabQ
    rw [this, e]
    exact t1
  · obtain ⟨ps0, e0, _⟩ : GxR.TabG H Pt := a.tab _ hP
    refine (a.tab Q hQ).step (t2 _ e) fun c q h => ?_
    rw [t2 c fun z => ?_]
    · exact h
    · rw [z, e0] at h
      unfold LamX.CodeO at h
      cases h
/-- n turns, each telling the same heap -/
theorem tj_genG {Pt : Addr} {wi : TI} {g : TG} {N : List Str} {js : List Nat} {Rw : Nat → (Nat → V) → VK → Hp → Prop} (hP : TabOne T Pt)
    (h : IT C wi S F fun ys F1 => ∃ (vs : Nat → V), (∀ i y, ys[i]? = some y → TGJ C g y (startS N js S) F1 fun S2 F2 => KeepS (startS N js S) S2 ∧ TJ C te S2 F2 fun z F3 => (∀ H v, As C F3 H → RV K (C.hid F3 H) z v → v = vs i) ∧ F3 = F1) ∧
      ∀ H, As C F1 H → ∀ Q : VK, (∀ z v H', Ev C F1 H F1 H' → As C F1 H' → RV K (C.hid F1 H') z v → P z F1 → Q v H') → Rw ys.length vs Q H) :
    TJ C (tGenG Pt wi g te N js Rw) S F P := fun σ H rs as Q q => by
  refine h σ H rs as _ fun J H1 F1 ys Gd Yr e1 a1 W hG hY hh => ?_
  obtain ⟨vs, turn, done⟩ := hh
  refine ⟨a1.tab _ hP.1, fun H2 ht => ?_⟩
  obtain ⟨e2, a2⟩ := a1.tabbed hP ht
  refine ⟨ys.length, vs, fun _ σg H3 => RS K (C.hid F1 H3) (startS N js S) σg ∧ Ev C F1 H1 F1 H3 ∧ As C F1 H3, ⟨rs_startS (rs.sub (e1.trans e2)), e2, a2⟩, ⟨fun i σg H3 hi ⟨rs3, e3, a3⟩ => ?_, fun σg H3 ⟨_, e3, a3⟩ => W.stops H3 (hG _ H3 e3 a3)⟩, fun i σg H3 hi ⟨_, e3, a3⟩ => ?_⟩
  · have gd := hG _ H3 e3 a3
    refine ⟨W.goes i H3 hi gd, fun x H4 y4 => ?_⟩
    obtain ⟨e4, a4, y, ey, ry⟩ := hY i H3 x H4 _ e3 a3 hi (W.yields i H3 x H4 hi gd y4)
    refine turn i y ey σg H4 x (rs3.sub e4) a4 ry _ fun σ5 H5 S5 F5 e5 rs5 a5 ⟨k5, t5⟩ => ?_
    refine t5 σ5 H5 rs5 a5 _ fun v H6 z F6 e6 a6 r6 ⟨v6, f6⟩ => ?_
    have vv := v6 H6 v a6 r6
    rw [f6] at e6 a6
    exact ⟨vv, RS.keepS k5 (rs5.sub e6), (e3.trans e4).trans (e5.trans e6), a6⟩
  · exact done H3 a3 Q fun z v H' e' a' r' p' => q v H' z F1 ((e1.trans e3).trans e') a' r' p'
def trL {α : Type} (φ : α → Bool) (l : List α) (i : Nat) : Bool := match l[i]? with
  | some a => φ a
  | none => false
theorem trL_map {α : Type} (φ : α → Bool) (l : List α) : (List.range l.length).map (trL φ l) = l.map φ := by
  apply List.ext_getElem (by simp)
  intro i h1 h2
  have hi : i < l.length := by simpa using h2
  simp only [List.getElem_map, List.getElem_range, trL, List.getElem?_eq_getElem hi]
theorem all_map {α : Type} (f : α → Bool) (l : List α) : l.all f = (l.map f).all id := by rw [List.all_map]; rfl
theorem any_map {α : Type} (f : α → Bool) (l : List α) : l.any f = (l.map f).any id := by rw [List.any_map]; rfl
theorem trL_all {α : Type} (φ : α → Bool) (l : List α) : (List.range l.length).all (trL φ l) = l.all φ := by rw [all_map, trL_map, ← all_map]
theorem trL_any {α : Type} (φ : α → Bool) (l : List α) : (List.range l.length).any (trL φ l) = l.any φ := by rw [any_map, trL_map, ← any_map]
/-- all(e for t in it): each element's truth is φ of the item -/
theorem tj_all {Pt : Addr} {wi : TI} {g : TG} {N : List Str} {js : List Nat} (hP : TabOne T Pt)
    (h : IT C wi S F fun ys F1 => ∃ (α : Type) (l : List α) (enc : α → SV) (φ : α → Bool), ys = l.map enc ∧
      (∀ a, a ∈ l → TGJ C g (enc a) (startS N js S) F1 fun S2 F2 => KeepS (startS N js S) S2 ∧ TJ C te S2 F2 fun z F3 => z = dB (φ a) ∧ F3 = F1) ∧ P (dB (l.all φ)) F1) :
    TJ C (tGenG Pt wi g te N js allW) S F P := tj_genG hP fun σ H rs as R q => h σ H rs as R fun J H1 F1 ys Gd Yr e1 a1 W hG hY ⟨α, l, enc, φ, el, turn, k⟩ => q J H1 F1 ys Gd Yr e1 a1 W hG hY (by
  subst el
  refine ⟨fun i => .bl (trL φ l i), fun i y hy => ?_, fun H2 a2 Q2 q2 => ⟨_, rfl, ?_⟩⟩
  · rw [List.getElem?_map] at hy
    obtain ⟨a, ha, rfl⟩ := Option.map_eq_some_iff.mp hy
    have e : trL φ l i = φ a := by unfold trL; rw [ha]
    intro σ3 H3 v3 rs3 as3 rv3 Q3 q3
    refine turn a (List.mem_of_getElem? ha) σ3 H3 v3 rs3 as3 rv3 Q3 fun σ4 H4 S4 F4 e4 rs4 a4 ⟨k4, t4⟩ => q3 σ4 H4 S4 F4 e4 rs4 a4 ⟨k4, ?_⟩
    intro σ5 H5 rs5 as5 Q5 q5
    refine t4 σ5 H5 rs5 as5 Q5 fun v H6 z F6 e6 a6 r6 ⟨ez, ef⟩ => q5 v H6 z F6 e6 a6 r6 ⟨fun H7 v7 a7 r7 => ?_, ef⟩
    subst ez
    show v7 = .bl (trL φ l i)
    rw [e]
    exact r7.bl
  · rw [List.length_map, trL_all]
    exact q2 (dB _) _ H2 (Sub.refl _) a2 (rvB _) k)
theorem tj_any {Pt : Addr} {wi : TI} {g : TG} {N : List Str} {js : List Nat} (hP : TabOne T Pt)
    (h : IT C wi S F fun ys F1 => ∃ (α : Type) (l : List α) (enc : α → SV) (φ : α → Bool), ys = l.map enc ∧
      (∀ a, a ∈ l → TGJ C g (enc a) (startS N js S) F1 fun S2 F2 => KeepS (startS N js S) S2 ∧ TJ C te S2 F2 fun z F3 => z = dB (φ a) ∧ F3 = F1) ∧ P (dB (l.any φ)) F1) :
    TJ C (tGenG Pt wi g te N js anyW) S F P := tj_genG hP fun σ H rs as R q => h σ H rs as R fun J H1 F1 ys Gd Yr e1 a1 W hG hY ⟨α, l, enc, φ, el, turn, k⟩ => q J H1 F1 ys Gd Yr e1 a1 W hG hY (by
  subst el
  refine ⟨fun i => .bl (trL φ l i), fun i y hy => ?_, fun H2 a2 Q2 q2 => ⟨_, rfl, ?_⟩⟩
  · rw [List.getElem?_map] at hy
    obtain ⟨a, ha, rfl⟩ := Option.map_eq_some_iff.mp hy
    have e : trL φ l i = φ a := by unfold trL; rw [ha]
    intro σ3 H3 v3 rs3 as3 rv3 Q3 q3
    refine turn a (List.mem_of_getElem? ha) σ3 H3 v3 rs3 as3 rv3 Q3 fun σ4 H4 S4 F4 e4 rs4 a4 ⟨k4, t4⟩ => q3 σ4 H4 S4 F4 e4 rs4 a4 ⟨k4, ?_⟩
    intro σ5 H5 rs5 as5 Q5 q5
    refine t4 σ5 H5 rs5 as5 Q5 fun v H6 z F6 e6 a6 r6 ⟨ez, ef⟩ => q5 v H6 z F6 e6 a6 r6 ⟨fun H7 v7 a7 r7 => ?_, ef⟩
    subst ez
    show v7 = .bl (trL φ l i)
    rw [e]
    exact r7.bl
  · rw [List.length_map, trL_any]
    exact q2 (dB _) _ H2 (Sub.refl _) a2 (rvB _) k)
end
/-- the def's table of its lambda -/
def TabLam (T : List Tb) (Pt : Addr) (q : Str) : Prop := (Pt, some q) ∈ T ∧ ∀ p ∈ T, p.1 = Pt → p.2 = some q
theorem tab_uniq {T : List Tb} (hn : (keysT T).Nodup) {P : Addr} {o : Option Str} (h : (P, o) ∈ T) : ∀ p ∈ T, p.1 = P → p.2 = o := by
  intro p hp e
  induction T with
  | nil => cases h
  | cons a r ih =>
    have hn2 := List.nodup_cons.mp hn
    rcases List.mem_cons.mp h with h1 | h1 <;> rcases List.mem_cons.mp hp with h2 | h2
    · rw [h2, ← h1]
    · exact absurd (List.mem_map.mpr ⟨p, h2, by rw [e, ← h1]⟩) hn2.1
    · exact absurd (List.mem_map.mpr ⟨_, h1, by rw [← h2]; exact e.symm⟩) hn2.1
    · exact ih hn2.2 h1 h2
theorem tabOne_of {T : List Tb} (hn : (keysT T).Nodup) {P : Addr} (h : (P, none) ∈ T) : TabOne T P := ⟨h, fun q hq => by cases tab_uniq hn h _ hq rfl⟩
theorem tabLam_of {T : List Tb} (hn : (keysT T).Nodup) {P : Addr} {q : Str} (h : (P, some q) ∈ T) : TabLam T P q := ⟨h, tab_uniq hn h⟩
end G

namespace G
open PySem L2 PySem.Spec PyProof.Rows
/-! ### tuple(it): a walk whose values go to a list -/
/-- at most k values are left; S: the list they go to -/
structure WalkC (P : Program) (w : World) (A : Around) (I S : Addr) (St : Nat → Shared → Prop) (Yv : Nat → Value → Shared → Prop) (Fin : Shared → Prop) : Prop where
  next : ∀ k s (Q : Option Value → Shared → Prop) (E : Value → Shared → Prop), St k s → (∀ v s', Yv k v s' → Q (some v) s') → (∀ s', Fin s' → Q none s') → wpAny (model P w) A (pyNext (.ref I)) Q E s
  push : ∀ k v s', Yv k v s' → ∃ m acc c, k = m + 1 ∧ s'.heap.get? S = some (lstObj acc c) ∧ acc.size < sizeLine ∧ St m { s' with heap := s'.heap.update S (Obj.mapSeq (·.push v)) }
section
variable {P : Program} {w : World} {A : Around} {I S : Addr} {St : Nat → Shared → Prop} {Yv : Nat → Value → Shared → Prop} {Fin : Shared → Prop}
theorem ext_loopC {R : Result → Shared → Prop} {res : Value} (W : WalkC P w A.in1 I S St Yv Fin) : ∀ (k : Nat) (s : Shared), St k s → (∀ s', Fin s' → R (.ok (.ret res)) s') → codeAny (model P w) A (.builtin "list.extend.loop" ⟨[.ref S, .ref I, res], []⟩) R s := by
  intro k
  induction k with
  | zero =>
    intro s hst hR
    refine codeAny_builtin F.entry_extend_loop ?_
    rw [Around.under_plainId F.plain_extend_loop _]
    show wpAny _ A.in1 (pyNext (.ref I) >>= _) _ _ s
    refine wpAny_bind (W.next 0 s _ _ hst (fun v s' hy => ?_) fun s' hf => wpAny_pure (hR s' hf))
    obtain ⟨m, _, _, e, _⟩ := W.push 0 v s' hy
    cases e
  | succ k ih =>
    intro s hst hR
    refine codeAny_builtin F.entry_extend_loop ?_
    rw [Around.under_plainId F.plain_extend_loop _]
    show wpAny _ A.in1 (pyNext (.ref I) >>= _) _ _ s
    refine wpAny_bind (W.next (k + 1) s _ _ hst (fun v s' hy => ?_) fun s' hf => wpAny_pure (hR s' hf))
    obtain ⟨m, acc, c, e, hS, hz, hst'⟩ := W.push (k + 1) v s' hy
    cases e
    show wpAny _ A.in1 (updateSeq S (·.push v) >>= _) _ _ _
    refine wpAny_bind ?_
    exact wpAny_updateSeq hS rfl (wpAny_pure ⟨plainId_quiet F.plain_extend_loop _, ih _ hst' hR⟩) (Nat.le_of_lt hz) (by show (acc.push v).size ≤ sizeLine + 1; rw [Array.size_push]; omega)
end
section
variable {P : Program} {w : World} {A : Around} {I : Addr} {g n : Nat} {s : Shared} {E : Value → Shared → Prop} {St : Addr → Nat → Shared → Prop} {Yv : Addr → Nat → Value → Shared → Prop} {Fin : Addr → Shared → Prop}
theorem collectC {Q : List Value → Shared → Prop} (W : ∀ S, s.heap.objs.size ≤ S → WalkC P w A.in1 I S (St S) (Yv S) (Fin S)) (hg : s.heap.IsGen I g)
    (h0 : ∀ S h' tk c, s.heap.objs.size ≤ S → (∀ b o, s.heap.get? b = some o → h'.get? b = some o) → h'.get? S = some (lstObj #[] c) → St S n { s with heap := h', toks := tk })
    (hf : ∀ S s', s.heap.objs.size ≤ S → Fin S s' → ∃ acc c, s'.heap.get? S = some (lstObj acc c) ∧ acc.size ≤ sizeLine)
    (hQ : ∀ S s' acc c, s.heap.objs.size ≤ S → Fin S s' → s'.heap.get? S = some (lstObj acc c) → acc.size ≤ sizeLine → Q acc.toList s') : wpAny (model P w) A (collect (.ref I)) Q E s := by
  have hSI : s.heap.objs.size ≠ I := fun e => by
    obtain ⟨o, _, _, ho, _⟩ := hg
    rw [← e] at ho
    exact Nat.lt_irrefl _ (Heap.lt_size ho)
  unfold collect
  refine wpAny_bind (wpAny_runValue (codeAny_builtin F.entry_proto_collect ?_))
  rw [Around.under_plainId F.plain_proto_collect _]
  show wpAny _ A.in1 (newList [] >>= fun l => again (.builtin "list.__iadd__" ⟨[l, .ref I], []⟩)) _ _ s
  refine wpAny_bind (wpAny_newObj_type ?_)
  refine wpAny_pure ⟨plainId_quiet F.plain_list_iadd _, codeAny_builtin F.entry_list_iadd ?_⟩
  rw [Around.under_plainId F.plain_list_iadd _]
  have k1 : ∀ b o, s.heap.get? b = some o → (s.heap.push { cls := .type "list", data := .seq ([] : List Value).toArray }).get? b = some o := fun b o e => Heap.get?_push_of_some _ e
  have hg1 := hg.keeps k1
  show wpAny _ A.in1 (Builtin.List.listExtendWith (.ref s.heap.objs.size) (.ref I) (.ref s.heap.objs.size)) _ _ _
  unfold Builtin.List.listExtendWith
  refine wpAny_bind (wpAny_typeOf (Heap.IsGen.typeIs (s := { s with heap := _ }) hg1) ?_)
  have h1 : Builtin.List.listSameRef (.ref s.heap.objs.size) (.ref I) = false := by simp [Builtin.List.listSameRef, hSI]
  have h2 : (Value.type "generator" == Value.type "list") = false := by decide
  have h3 : (Value.type "generator" == Value.type "tuple") = false := by decide
  simp only [h1, h2, h3, Bool.or_false, Bool.false_eq_true, if_false]
  refine wpAny_bind (wpAny_pyIter_gen (s := { s with heap := _ }) hg1 ?_)
  refine wpAny_bind (wpAny_holding ?_)
  unfold Builtin.List.listLengthHint
  refine wpAny_bind (wpAny_specialOf (Heap.IsGen.typeIs (s := { s with heap := _ }) hg1) F.gen_no_len ?_)
  show wpAny _ A.in1 (specialOf (Value.ref I) (Str.ofString "__length_hint__") >>= _) _ _ _
  refine wpAny_bind (wpAny_specialOf (Heap.IsGen.typeIs (s := { s with heap := _ }) hg1) F.gen_no_hint ?_)
  refine wpAny_pure ?_
  show wpAny _ A.in1 (rule "list.extend.makes-room" >>= fun _ => Builtin.List.listTouch (.ref s.heap.objs.size) >>= fun _ =>
    again (.builtin "list.extend.loop" ⟨[.ref s.heap.objs.size, .ref I, .ref s.heap.objs.size], []⟩)) _ _ _
  refine wpAny_bind (wpAny_rule ?_)
  have hS₁ : (s.heap.push { cls := .type "list", data := .seq ([] : List Value).toArray }).get? s.heap.objs.size = some { cls := .type "list", data := .seq ([] : List Value).toArray } := Heap.get?_push_size _ rfl
  refine wpAny_bind ?_
  show wpAny _ A.in1 (updateSeq s.heap.objs.size (·.push .none) >>= fun _ => updateSeq s.heap.objs.size (·.pop)) _ _ _
  refine wpAny_bind (wpAny_updateSeq hS₁ rfl ?_)
  have hS₂ := Heap.get?_update_self (Obj.mapSeq (·.push Value.none)) hS₁ rfl
  refine wpAny_updateSeq hS₂ rfl ?_
  have hS₃ := Heap.get?_update_self (Obj.mapSeq (·.pop)) hS₂ rfl
  have oth : ∀ b o, s.heap.get? b = some o →
      (((s.heap.push { cls := .type "list", data := .seq ([] : List Value).toArray }).update s.heap.objs.size (Obj.mapSeq (·.push Value.none))).update s.heap.objs.size (Obj.mapSeq (·.pop))).get? b = some o :=
    fun b o e => by
      have hb : b ≠ s.heap.objs.size := Nat.ne_of_lt (Heap.lt_size e)
      exact (Heap.get?_update_other _ _ (Ne.symm hb)).trans ((Heap.get?_update_other _ _ (Ne.symm hb)).trans (k1 b o e))
  refine wpAny_pure ⟨plainId_quiet F.plain_extend_loop _, ext_loopC (W _ (Nat.le_refl _)) n _ (h0 _ _ _ _ (Nat.le_refl _) oth hS₃) fun s' hfi => ?_⟩
  obtain ⟨acc, c, hS', hz⟩ := hf _ s' (Nat.le_refl _) hfi
  show wpAny _ A (load s.heap.objs.size >>= _) _ _ s'
  refine wpAny_bind (wpAny_load hS' ?_)
  exact wpAny_pure (hQ _ s' acc c (Nat.le_refl _) hfi hS' hz)
end
section
variable {P : Program} {w : World} {A : Around} {I : Addr} {g n : Nat} {s : Shared} {E : Value → Shared → Prop} {St : Addr → Nat → Shared → Prop} {Yv : Addr → Nat → Value → Shared → Prop} {Fin : Addr → Shared → Prop}
theorem tuple_newC {Q₁ : Value → Shared → Prop} (W : ∀ S, s.heap.objs.size ≤ S → WalkC P w A.in1.in1 I S (St S) (Yv S) (Fin S)) (hg : s.heap.IsGen I g)
    (h0 : ∀ S h' tk c, s.heap.objs.size ≤ S → (∀ b o, s.heap.get? b = some o → h'.get? b = some o) → h'.get? S = some (lstObj #[] c) → St S n { s with heap := h', toks := tk })
    (hf : ∀ S s', s.heap.objs.size ≤ S → Fin S s' → ∃ acc c, s'.heap.get? S = some (lstObj acc c) ∧ acc.size ≤ sizeLine)
    (hQ : ∀ S s' acc c, s.heap.objs.size ≤ S → Fin S s' → s'.heap.get? S = some (lstObj acc c) → Q₁ (.ref s'.heap.objs.size) { s' with heap := s'.heap.push { cls := .type "tuple", data := .seq acc } }) :
    codeAny (model P w) A (.call (.builtin "tuple.__new__") ⟨[.type "tuple", .ref I], []⟩) (wants Q₁ E) s := by
  refine codeAny_of_tree ?_
  show wpAny _ A.in1 (do checkBuiltinCall "tuple.__new__" ⟨[.type "tuple", .ref I], []⟩; again (.builtin "tuple.__new__" ⟨[.type "tuple", .ref I], []⟩)) _ _ s
  refine wpAny_bind (wpAny_of_eq (F.newCall_tuple_1 _) (wpAny_pure ⟨plainId_quiet F.plain_tuple_new _, codeAny_builtin F.entry_tuple_new ?_⟩))
  rw [Around.under_plainId F.plain_tuple_new _]
  have hsub := sub_tuple_self
  have hinit := init_tuple_lookup
  have hmh := madeHere_tuple
  have hTI : s.TypeIs (.ref I) "generator" := hg.typeIs
  wp_walk using wpAny_typeOf hTI, collectC W hg h0 hf
  intro S s' acc c hS hfi he hz
  show wpAny _ _ (Builtin.Tuple.tupleExact acc.toList.toArray >>= fun v => ret v) _ _ _
  unfold Builtin.Tuple.tupleExact
  refine wpAny_bind (wpAny_newObj_type ?_ (by show acc.toList.toArray.size ≤ sizeLine; simp only [Array.toArray_toList]; exact hz))
  refine wpAny_pure ?_
  have e : acc.toList.toArray = acc := by simp
  rw [e]
  exact hQ S s' acc c hS hfi he
theorem call_tupleC {Q : Value → Shared → Prop} (W : ∀ S, s.heap.objs.size ≤ S → WalkC P w A.in1.in1.in1 I S (St S) (Yv S) (Fin S)) (hg : s.heap.IsGen I g)
    (h0 : ∀ S h' tk c, s.heap.objs.size ≤ S → (∀ b o, s.heap.get? b = some o → h'.get? b = some o) → h'.get? S = some (lstObj #[] c) → St S n { s with heap := h', toks := tk })
    (hf : ∀ S s', s.heap.objs.size ≤ S → Fin S s' → ∃ acc c, s'.heap.get? S = some (lstObj acc c) ∧ acc.size ≤ sizeLine)
    (hQ : ∀ S s' acc c, s.heap.objs.size ≤ S → Fin S s' → s'.heap.get? S = some (lstObj acc c) → Q (.ref s'.heap.objs.size) { s' with heap := s'.heap.push { cls := .type "tuple", data := .seq acc } }) :
    wpAny (model P w) A (call (.type "tuple") [.ref I]) Q E s := by
  refine callType_codes (Q₁ := fun obj s₁ => s₁.TypeIs obj "tuple" ∧ Q obj s₁) F.called_tuple (F.typeCall_tuple_1 _) F.entry_object_init
    (tuple_newC W hg h0 hf fun S s' acc c hS hfi he => ⟨⟨_, Heap.get?_push_size _ rfl, rfl⟩, hQ S s' acc c hS hfi he⟩) fun obj s₁ h₁ => ?_
  exact ⟨h₁.1, F.args_object_init_2 obj _, object_init_meets F.called_tuple.init.lookup F.called_tuple.made (by decide) P w A.in1 _ s₁ ⟨h₁.1, rfl, h₁.2⟩⟩
end
/-! ### the run of a generator expression whose values go to a list -/
def protoC (Jy : Nat → Value → Shared → Prop) (J : Nat → Shared → Prop) : Protocol := fun _ _ v s kap => ∃ i, Jy i v s ∧ ∀ s'', J (i + 1) s'' → kap (.send .none) s''
section
variable {prog : Program} {w : World} {A : Around}
theorem seg_loopC {elt iter : Expr} {tgt : Expr} {ifs : List Expr} {scope : Scope} {pos : Pos} {I : Addr} {n₀ : Nat} {cenv : Env} {Jy : Nat → Value → Shared → Prop} {J : Nat → Shared → Prop} {Jn Jv : Nat → Value → Shared → Prop} {Jx Jt : Nat → Shared → Prop} {Fin' : Shared → Prop} {c : Code}
    (hc : c = .compLoop (.GeneratorExp elt [⟨tgt, iter, ifs, 0⟩] scope pos) 0 (.ref I) .none cenv)
    (hco : cenv.scope.isCoroutine = false)
    (hnext : ∀ i s (Q : Option Value → Shared → Prop) (E : Value → Shared → Prop), i < n₀ → J i s → (∀ v s', Jn i v s' → Q (some v) s') → wpAny (model prog w) (A.over c []) (pyNext (.ref I)) Q E s)
    (hgo : ∀ i v s (Q : Unit → Shared → Prop) (E : Value → Shared → Prop), Jn i v s → (∀ s', Jv i v s' → Q () s') → wpAny (model prog w) (A.over c []) (letOwnedTupleGo tgt (.ref I) v) Q E s)
    (hdone : ∀ s (Q : Option Value → Shared → Prop) (E : Value → Shared → Prop), J n₀ s → (∀ s', Fin' s' → Q none s') → wpAny (model prog w) (A.over c []) (pyNext (.ref I)) Q E s)
    (hasg : ∀ i v s (Q : Unit → Shared → Prop) (E : Value → Shared → Prop), Jv i v s → (∀ s', Jx i s' → Q () s') → wpAny (model prog w) (A.over c []) (assign tgt cenv v) Q E s)
    (htest : ∀ i s (Q : Bool → Shared → Prop) (E : Value → Shared → Prop), i < n₀ → Jx i s → (∀ s', Jt i s' → Q true s') → (∀ s', J (i + 1) s' → Q false s') → wpAny (model prog w) (A.over c []) (forIn ifs true fun c r => if r = true then do let ok ← isTrue c cenv (eval c cenv); pure (ForInStep.yield ok) else pure (ForInStep.yield r)) Q E s)
    (helt : ∀ i s (Q : Value → Shared → Prop) (E : Value → Shared → Prop), i < n₀ → Jt i s → (∀ v s', Jy i v s' → Q v s') → wpAny (model prog w) (A.over c []) (eval elt cenv) Q E s) :
    ∀ (d i k : Nat) (s₀ s : Shared), n₀ - i = d → i ≤ n₀ → d ≤ k → J i s →
      Seg (model prog w) A (fun _ _ r s₁ => r = .ok .next ∧ Fin' s₁) (protoC Jy J) k s₀ c ((model prog w).den c) [] s := by
  subst hc
  intro d
  induction d with
  | zero =>
    intro i k s₀ s hd hi hk hj
    cases (show i = n₀ by omega)
    show Seg _ A _ _ _ s₀ _ ((compTurn (.GeneratorExp elt [⟨tgt, iter, ifs, 0⟩] scope pos) 0 (.ref I) .none cenv).onRaise (leaving cenv)) [] s
    rw [compTurn_gen, Sem.onRaise_eq_wrap]
    refine seg_bind_wrap (wpAny_standAt (seg_bind_wrap (hdone s _ _ hj fun s' hf => ?_)))
    exact seg_end (.ok .next) ⟨rfl, hf⟩
  | succ d ih =>
    intro i k s₀ s hd hi hk hj
    have hlt : i < n₀ := by omega
    show Seg _ A _ _ _ s₀ _ ((compTurn (.GeneratorExp elt [⟨tgt, iter, ifs, 0⟩] scope pos) 0 (.ref I) .none cenv).onRaise (leaving cenv)) [] s
    rw [compTurn_gen, Sem.onRaise_eq_wrap]
    refine seg_bind_wrap (wpAny_standAt (seg_bind_wrap (hnext i s _ _ hlt hj fun v s0 hv0 => ?_)))
    refine seg_bind_wrap (hgo i v s0 _ _ hv0 fun s1 hv => ?_)
    refine seg_bind_wrap (hasg i v s1 _ _ hv fun s2 hx => ?_)
    refine seg_bind_wrap (htest i s2 _ _ hlt hx (fun s3 ht => ?_) fun s3 h3 => ?_)
    · simp only [if_true]
      have hy : ∀ v, yieldOut cenv v = yieldValue v := fun v => by simp only [yieldOut, hco, Bool.false_eq_true, if_false]
      simp only [hy]
      rw [Sem.bind_eq_wrap', Sem.bind_eq_wrap', Sem.wrap_wrap, Sem.wrap_wrap]
      refine seg_wrap (helt i s3 _ _ hlt ht fun y s4 h4 => ?_)
      obtain ⟨m, rfl⟩ : ∃ m, k = m + 1 := ⟨k - 1, by omega⟩
      refine seg_at (seg_yield rfl rfl rfl ⟨i, h4, fun s5 h5 => ?_⟩)
      exact seg_again rfl (ih (i + 1) m s5 s5 (by omega) hlt (by omega) h5)
    · simp only [Bool.false_eq_true, if_false]
      exact seg_again rfl (ih (i + 1) k s₀ s3 (by omega) hlt (by omega) h3)
theorem seg_startC {elt iter : Expr} {tgt : Expr} {ifs : List Expr} {scope : Scope} {pos : Pos} {I : Addr} {n₀ : Nat} {cenv : Env} {Jy : Nat → Value → Shared → Prop} {J : Nat → Shared → Prop} {Fin' : Shared → Prop}
    (loop : ∀ s₀ s, J 0 s → Seg (model prog w) A (fun _ _ r s₁ => r = .ok .next ∧ Fin' s₁) (protoC Jy J) n₀ s₀ (.compLoop (.GeneratorExp elt [⟨tgt, iter, ifs, 0⟩] scope pos) 0 (.ref I) .none cenv)
      ((model prog w).den (.compLoop (.GeneratorExp elt [⟨tgt, iter, ifs, 0⟩] scope pos) 0 (.ref I) .none cenv)) [] s)
    (hself : ∀ (A' : Around) s (Q : Value → Shared → Prop) (E : Value → Shared → Prop), J 0 s → Q (.ref I) s → wpAny (model prog w) A' (pyIter (.ref I)) Q E s) (s₀ s : Shared) (hj : J 0 s) :
    Seg (model prog w) A (fun _ _ r s₁ => r = .ok .next ∧ Fin' s₁) (protoC Jy J) n₀ s₀ (.compStart (.GeneratorExp elt [⟨tgt, iter, ifs, 0⟩] scope pos) 0 (.ref I) .none cenv)
      ((model prog w).den (.compStart (.GeneratorExp elt [⟨tgt, iter, ifs, 0⟩] scope pos) 0 (.ref I) .none cenv)) [] s := by
  show Seg _ A _ _ _ s₀ _ ((compStart (.GeneratorExp elt [⟨tgt, iter, ifs, 0⟩] scope pos) 0 (.ref I) .none cenv).onRaise (leaving cenv)) [] s
  unfold compStart
  rw [Sem.onRaise_eq_wrap]
  refine (show Seg _ A _ _ _ s₀ _ ((ask >>= _).wrap _ _ _ _) [] s from seg_bind_wrap (wpAny_askSetting ?_))
  split
  · exact seg_again rfl (loop s₀ s hj)
  · first
      | exact seg_bind_wrap (wpAny_rule (seg_bind_wrap (wpAny_standAt (seg_bind_wrap (hself _ s _ _ hj (seg_again rfl (loop s₀ s hj)))))))
      | (refine seg_bind_wrap (wpAny_rule ?_); refine (show Seg _ A _ _ _ s₀ _ ((standAt iter.pos >>= _).wrap _ _ _ _) [] s from ?_); exact seg_bind_wrap (wpAny_standAt (seg_bind_wrap (hself _ s _ _ hj (seg_again rfl (loop s₀ s hj))))))
/-- the generator ahead of its next value; at most k more -/
def GenC (prog : Program) (w : World) (A : Around) (g : Nat) (Jy : Nat → Value → Shared → Prop) (J : Nat → Shared → Prop) (Fin' : Shared → Prop) (k : Nat) (s : Shared) : Prop :=
  ∃ i, J i s ∧ ∃ gs, s.gens[g]? = some gs ∧ ∀ s'', J i s'' → gs.Goes (model prog w) A.in1 (fun _ _ r s₁ => r = .ok .next ∧ Fin' s₁) (protoC Jy J) k (.send .none) s''
def GenY (prog : Program) (w : World) (A : Around) (g : Nat) (Jy : Nat → Value → Shared → Prop) (J : Nat → Shared → Prop) (Fin' : Shared → Prop) (k : Nat) (v : Value) (s : Shared) : Prop :=
  ∃ i m, k = m + 1 ∧ Jy i v s ∧ ∃ gs, s.gens[g]? = some gs ∧ ∀ s'', J (i + 1) s'' → gs.Goes (model prog w) A.in1 (fun _ _ r s₁ => r = .ok .next ∧ Fin' s₁) (protoC Jy J) m (.send .none) s''
theorem walk_genC {a S : Addr} {g : Nat} {Jy : Nat → Value → Shared → Prop} {J : Nat → Shared → Prop} {Fin' Fin : Shared → Prop} (hh : A.handled = none) (hroom : A.depth < recursionLimit)
    (hJ : ∀ j s, J j s → s.heap.IsGen a g ∧ s.heap.NoLimit) (hset : ∀ j s x, GenState.bare x = true → J j s → J j (s.setGen g x)) (hsetY : ∀ j v s x, GenState.bare x = true → Jy j v s → Jy j v (s.setGen g x))
    (hfin : ∀ s₁ h', Fin' s₁ → (∀ b o, s₁.heap.get? b = some o → h'.get? b = some o) → Fin { s₁.setGen g .finished with heap := h' })
    (hpush : ∀ i v s, Jy i v s → ∃ acc c, s.heap.get? S = some (lstObj acc c) ∧ acc.size < sizeLine ∧ J (i + 1) { s with heap := s.heap.update S (Obj.mapSeq (·.push v)) }) :
    WalkC prog w A a S (GenC prog w A g Jy J Fin') (GenY prog w A g Jy J Fin') Fin where
  next := fun k s Q E st hQ hQ2 => by
    obtain ⟨j, hJs, gs, hgs, hgo⟩ := st
    obtain ⟨h1, h2⟩ := hJ j s hJs
    have h3 : g < s.gens.size := (Array.getElem?_eq_some_iff.mp hgs).1
    refine GenW.wpAny_gsz (Nat.le_refl s.gens.size) ?_
    refine wpAny_pyNext_genexpQ (P := fun _ _ s₁ => Fin' s₁) hh h2 hroom h1 hgs (hgo _ (hset j s .running rfl hJs)) (fun v s₁ gs' hb hv hsz => ?_) (fun s₁ hp h' hk _ => hQ2 _ (hfin s₁ h' hp hk))
    rw [GenW.setGen_size] at hsz
    obtain ⟨i, hy, kap⟩ := hv
    cases k with
    | zero =>
      obtain ⟨_, _, _, _, hJ1⟩ := hpush i v s₁ hy
      exact (kap _ hJ1).elim
    | succ m => exact hQ v _ ⟨i, m, rfl, hsetY _ _ _ _ hb hy, gs', setGen_look (Nat.lt_of_lt_of_le h3 hsz), fun s'' h => kap s'' h⟩
  push := fun k v s' hy => by
    obtain ⟨i, m, rfl, hy, gs, hgs, kap⟩ := hy
    obtain ⟨acc, c, hS, hz, hJ1⟩ := hpush i v s' hy
    exact ⟨m, acc, c, rfl, hS, hz, i + 1, hJ1, gs, hgs, kap⟩
end
end G

namespace G
open PySem L2 PySem.Spec PyProof.Rows GxR NdefX
/-! ### tuple(e for t in it if c) -/
/-- how the turns go: vs what was handed out -/
def TurnsC (J : It) (g : TG) (tt : TT) (te : TE) (n : Nat) (W : Nat → List V → L2.St → Hp → Prop) : Prop :=
  (∀ i vs σ H, i < n → W i vs σ H → J.go i H ∧ ∀ x H1, J.yld i H x H1 → g x σ H1 fun σ2 H2 => tt σ2 H2 fun b H3 => (b = true → te σ2 H3 fun y H4 => W (i + 1) (vs ++ [y]) σ2 H4) ∧ (b = false → W (i + 1) vs σ2 H3)) ∧ ∀ vs σ H, W n vs σ H → J.stop n H
theorem room_over4 {k : Nat} {A : Around} (hr : Room (k + 1) A) {e : Expr} {gs : List Comprehension} {sc : Scope} {p : Pos} {u v : Value} {cenv : Env} : Room k (A.in1.in1.in1.in1.over (.compLoop (.GeneratorExp e gs sc p) 0 u v cenv) []) := by
  have h1 := hr.dp
  have h2 := hr.un
  have e1 : (A.in1.in1.in1.in1.over (.compLoop (.GeneratorExp e gs sc p) 0 u v cenv) []).depth = A.depth + 1 := rfl
  have e2 : (A.in1.in1.in1.in1.over (.compLoop (.GeneratorExp e gs sc p) 0 u v cenv) []).units = A.units + 7 := rfl
  exact ⟨hr.hd, by omega, by omega⟩
theorem over_frames4 {A : Around} {l : List Env} (h : A.frames = some l) {e : Expr} {gs : List Comprehension} {sc : Scope} {p : Pos} {u v : Value} {cenv : Env} : (A.in1.in1.in1.in1.over (.compLoop (.GeneratorExp e gs sc p) 0 u v cenv) []).frames = some (cenv :: l) := by
  have h0 : A.in1.in1.in1.in1.frames = some l := h
  show pushEnvs (Code.compLoop (.GeneratorExp e gs sc p) 0 u v cenv).envs (pushEnvs (envsOf []) A.in1.in1.in1.in1.frames) = _
  rw [h0]
  rfl
theorem gen_walkC {X GX : Cx} {pins : List (Addr × Obj)} {σ : L2.St} {a it : Addr} {gn n : Nat} {GO : Obj} {fp : List Addr} {tn : Nat → Heap → Prop} {J : It} {g : TG} {tt : TT} {te : TE} {W : Nat → List V → L2.St → Hp → Prop} {R : List V → Hp → Prop} {s5 : Shared} {A' : Around}
    {elt iter tgt : Expr} {ifs : List Expr} {scope : Scope} {gpos : Pos} {σ0 : L2.St} {H0 : Hp} (hh : A'.handled = none) (hd : A'.depth < recursionLimit) (hGA : A'.in1.over (.compLoop (.GeneratorExp elt [⟨tgt, iter, ifs, 0⟩] scope gpos) 0 (.ref it) .none GX.env) [] = GX.A) (hcalm : GX.calm = true) (hxe : ∀ v s, ¬ GX.xe v s) (hco : GX.env.scope.isCoroutine = false)
    (T : L2.Turn GX.prog GX.w GX.K tgt J fp it tn) (hg : PG GX tgt g) (ht : PTs GX ifs tt) (he : PE GX elt te) (hgen : s5.heap.IsGen a gn) (hgs : s5.gens[gn]? = some (.fresh (.compStart (.GeneratorExp elt [⟨tgt, iter, ifs, 0⟩] scope gpos) 0 (.ref it) .none GX.env)))
    (Ig : Inv GX [(a, GO)] σ0 H0 s5) (w0 : W 0 [] σ0 H0) (t0 : tn 0 s5.heap) (f0 : ∀ b ∈ fp, H0 b = none) (hnz : n ≤ sizeLine) (tu : TurnsC J g tt te n W) (fin : ∀ vs σ' H', W n vs σ' H' → R vs H')
    (hout : ∀ pins' σ' H' s', Inv GX pins' σ' H' s' → Inv X pins σ H' s') (hfp : ∀ {Hj : Hp}, (∀ b ∈ fp, Hj b = none) → ∀ b ∈ fp, FpOk GX [(a, GO)] Hj b ∧ b < s5.heap.objs.size) :
    ∃ (St : Addr → Nat → Shared → Prop) (Yv : Addr → Nat → Value → Shared → Prop), (∀ S, s5.heap.objs.size ≤ S → WalkC GX.prog GX.w A' a S (St S) (Yv S) (fun s' => ∃ H' vs acc c, Inv X pins σ H' s' ∧ s'.heap.get? S = some (lstObj acc c) ∧ Vals vs acc.toList ∧ vs.length ≤ sizeLine ∧ R vs H')) ∧
      (∀ S h' tk c, s5.heap.objs.size ≤ S → (∀ b o, s5.heap.get? b = some o → h'.get? b = some o) → h'.get? S = some (lstObj #[] c) → St S n { s5 with heap := h', toks := tk }) := by
  obtain ⟨step, stop⟩ := tu
  have isg : ∀ h : Heap, h.get? a = some GO → h.IsGen a gn := by
    obtain ⟨o, nm, qn, ho, r⟩ := hgen
    have e := (Ig.pin (a, GO) (List.mem_append_right _ List.mem_cons_self)).1
    rw [ho] at e
    cases e
    exact fun h e => ⟨GO, nm, qn, e, r⟩
  have fpS : ∀ {S : Addr} {o : Obj} {Hj : Hp}, s5.heap.objs.size ≤ S → (∀ b ∈ fp, Hj b = none) → ∀ b ∈ fp, FpOk GX [(a, GO), (S, o)] Hj b := fun {S o Hj} hS hn b hb => by
    obtain ⟨⟨q0, q1, q2, q3, q4, q5⟩, hl⟩ := hfp hn b hb
    refine ⟨q0, q1, q2, q3, q4, fun p hp => ?_⟩
    rcases List.mem_append.mp hp with z | z
    · exact q5 p (List.mem_append_left _ z)
    · rcases List.mem_cons.mp z with z | z
      · exact q5 p (List.mem_append_right _ (by rw [z]; exact List.mem_cons_self))
      · have e : p = (S, o) := by simpa using z
        rw [e]
        exact fun z => by
          have z : S = b := z
          rw [z] at hS
          exact absurd hl (Nat.not_lt.mpr hS)
  have fresh : ∀ {S : Addr} {Hj : Hp}, s5.heap.objs.size ≤ S → Hj S = none → FpOk GX [(a, GO)] Hj S := fun hS hn => Ig.fpOk hS hn
  -- the list is written
  have write : ∀ {S : Addr} {o : Obj} {σj : L2.St} {Hj : Hp} {s : Shared} {f : Obj → Obj}, s5.heap.objs.size ≤ S → Inv GX [(a, GO), (S, o)] σj Hj s → (∀ v, (f o).data ≠ .cell v) → (f o).isFreed = false → Inv GX [(a, GO), (S, f o)] σj Hj { s with heap := s.heap.update S f } := fun {S o σj Hj s f} hS I hd hfr => by
    obtain ⟨e1, e2, _⟩ := I.pin (S, o) (List.mem_append_right _ (List.mem_cons_of_mem _ List.mem_cons_self))
    obtain ⟨q0, q1, q2, q3, q4, q5⟩ := fresh hS e2
    have I1 : Inv GX [(a, GO)] σj Hj s := I.pins_of fun p hp => I.pin p (List.mem_append_right _ (by
      have : p = (a, GO) := by simpa using hp
      rw [this]; exact List.mem_cons_self))
    have I2 := I1.turned (t' := s.toks) (h' := s.heap.update S f) (fun b o hb e => (Heap.get?_update_other _ _ (Ne.symm hb)).trans e) q0 q1 q3 q4 q5
    refine I2.pins_of fun p hp => ?_
    rcases List.mem_cons.mp hp with z | z
    · rw [z]; exact I2.pin (a, GO) (List.mem_append_right _ List.mem_cons_self)
    · have z : p = (S, f o) := by simpa using z
      rw [z]
      exact ⟨Heap.get?_update_self f e1 hfr, q0, q1, q2, hd⟩
  have size_le : ∀ {vs : List V} {acc : Array Value}, Vals vs acc.toList → acc.size = vs.length := fun {vs acc} h => by
    have := h.length
    simpa using this.symm
  -- the four states
  let JJ : Addr → Nat → Shared → Prop := fun S i s => ∃ σj Hj vs acc c, Inv GX [(a, GO), (S, lstObj acc c)] σj Hj s ∧ tn i s.heap ∧ (∀ b ∈ fp, Hj b = none) ∧ i ≤ n ∧ Vals vs acc.toList ∧ vs.length ≤ i ∧ W i vs σj Hj
  let JY : Addr → Nat → Value → Shared → Prop := fun S i v s => ∃ σj Hj vs y acc c, Inv GX [(a, GO), (S, lstObj acc c)] σj Hj s ∧ tn (i + 1) s.heap ∧ (∀ b ∈ fp, Hj b = none) ∧ i < n ∧ Vals vs acc.toList ∧ vs.length ≤ i ∧ RelV y v ∧ W (i + 1) (vs ++ [y]) σj Hj
  let JF : Addr → Shared → Prop := fun S s => ∃ σj Hj vs acc c, Inv GX [(a, GO), (S, lstObj acc c)] σj Hj s ∧ Vals vs acc.toList ∧ vs.length ≤ n ∧ W n vs σj Hj
  refine ⟨fun S => GenC GX.prog GX.w A' gn (JY S) (JJ S) (JF S), fun S => GenY GX.prog GX.w A' gn (JY S) (JJ S) (JF S), fun S hS => walk_genC hh hd ?_ ?_ ?_ ?_ ?_, ?_⟩
  · rintro j s ⟨σj, Hj, vs, acc, c, I, _⟩
    exact ⟨isg _ (I.pin (a, GO) (List.mem_append_right _ List.mem_cons_self)).1, I.nolimit⟩
  · rintro j s x hx ⟨σj, Hj, vs, acc, c, I, r⟩
    exact ⟨σj, Hj, vs, acc, c, inv_setGen I hx, r⟩
  · rintro j v s x hx ⟨σj, Hj, vs, y, acc, c, I, r⟩
    exact ⟨σj, Hj, vs, y, acc, c, inv_setGen I hx, r⟩
  · rintro s h' ⟨σj, Hj, vs, acc, c, I, hv, hl, hw⟩ kp
    have q := (inv_setGen (g := gn) (x := .finished) I rfl).kept (t' := s.toks) (h' := h') kp
    exact ⟨Hj, vs, acc, c, hout _ _ _ _ q, (q.pin (S, _) (List.mem_append_right _ (List.mem_cons_of_mem _ List.mem_cons_self))).1, hv, Nat.le_trans hl hnz, fin _ _ _ hw⟩
  · rintro i v s ⟨σj, Hj, vs, y, acc, c, I, ht1, hf, hi, hv, hl, hr, hw⟩
    have e := (I.pin (S, _) (List.mem_append_right _ (List.mem_cons_of_mem _ List.mem_cons_self))).1
    have hsz := size_le hv
    refine ⟨acc, c, e, by omega, σj, Hj, vs ++ [y], acc.push v, _, write (f := Obj.mapSeq (·.push v)) hS I (fun v z => by cases z) rfl, T.keep _ _ _ ht1 fun b hb o eb => ?_, hf, hi, ?_, ?_, hw⟩
    · have := (hfp hf b hb).2
      exact (Heap.get?_update_other _ _ (fun z : S = b => by rw [z] at hS; exact absurd this (Nat.not_lt.mpr hS))).trans eb
    · rw [Array.toList_push]
      exact hv.append (.cons hr .nil)
    · rw [List.length_append, List.length_singleton]
      omega
  · intro S h' tk c hS kp e
    have I1 := Ig.kept (t' := tk) kp
    have hn : H0 S = none := Ig.hok.fresh hS
    obtain ⟨q0, q1, q2, q3, q4, q5⟩ := fresh hS hn
    have I2 : Inv GX [(a, GO), (S, lstObj #[] c)] σ0 H0 { s5 with heap := h', toks := tk } := I1.pins_of fun p hp => by
      rcases List.mem_cons.mp hp with z | z
      · rw [z]; exact I1.pin (a, GO) (List.mem_append_right _ List.mem_cons_self)
      · have z : p = (S, lstObj #[] c) := by simpa using z
        rw [z]
        exact ⟨e, q0, q1, q2, fun v z => by cases z⟩
    refine ⟨0, ⟨σ0, H0, [], #[], c, I2, T.keep _ _ _ t0 fun b hb o eb => kp b o eb, f0, Nat.zero_le _, .nil, Nat.le_refl _, w0⟩, _, hgs, fun s8 hJ8 => ⟨rfl, ?_⟩⟩
    refine seg_startC (J := JJ S) (Jy := JY S) (Fin' := JF S) ?_ ?_ s8 s8 hJ8
    · intro s₀ s7 hJ7
      refine seg_loopC (n₀ := n) (Jn := fun i v s => wpAny (model GX.prog GX.w) GX.A (letOwnedTupleGo tgt (.ref it) v) (fun _ s2' => ∃ x σj Hj vs acc c, Inv GX [(a, GO), (S, lstObj acc c)] σj Hj s2' ∧ RelV x v ∧ tn (i + 1) s2'.heap ∧ (∀ b ∈ fp, Hj b = none) ∧ i < n ∧ Vals vs acc.toList ∧ vs.length ≤ i ∧ g x σj Hj fun σ2 H2 => tt σ2 H2 fun b H3 => (b = true → te σ2 H3 fun y H4 => W (i + 1) (vs ++ [y]) σ2 H4) ∧ (b = false → W (i + 1) vs σ2 H3)) (fun _ _ => False) s)
        (Jv := fun i v s2' => ∃ x σj Hj vs acc c, Inv GX [(a, GO), (S, lstObj acc c)] σj Hj s2' ∧ RelV x v ∧ tn (i + 1) s2'.heap ∧ (∀ b ∈ fp, Hj b = none) ∧ i < n ∧ Vals vs acc.toList ∧ vs.length ≤ i ∧ g x σj Hj fun σ2 H2 => tt σ2 H2 fun b H3 => (b = true → te σ2 H3 fun y H4 => W (i + 1) (vs ++ [y]) σ2 H4) ∧ (b = false → W (i + 1) vs σ2 H3))
        (Jx := fun i s3 => ∃ σj Hj hq vs acc c, Inv GX ([(a, GO), (S, lstObj acc c)] ++ pinsAt fp hq) σj Hj s3 ∧ tn (i + 1) hq ∧ Vals vs acc.toList ∧ vs.length ≤ i ∧ tt σj Hj fun b H3 => (b = true → te σj H3 fun y H4 => W (i + 1) (vs ++ [y]) σj H4) ∧ (b = false → W (i + 1) vs σj H3))
        (Jt := fun i s3 => ∃ σj Hj hq vs acc c, Inv GX ([(a, GO), (S, lstObj acc c)] ++ pinsAt fp hq) σj Hj s3 ∧ tn (i + 1) hq ∧ Vals vs acc.toList ∧ vs.length ≤ i ∧ te σj Hj fun y H4 => W (i + 1) (vs ++ [y]) σj H4)
        rfl hco ?_ ?_ ?_ ?_ ?_ ?_ n 0 n s₀ s7 rfl (Nat.zero_le _) (Nat.le_refl _) hJ7
      · rw [hGA]
        rintro i s9 Q E hi9 ⟨σj, Hj, vs, acc, c, Ij, st9, fr9, _, hv9, hl9, w9⟩ hQ9
        obtain ⟨go, y9⟩ := step i vs σj Hj hi9 w9
        refine wpAny_mono (T.item GX rfl rfl rfl hcalm i _ s9 σj Hj (fun _ _ => False) Ij (fpS hS fr9) st9 go) (fun r s1' h1' => ?_) fun _ _ z => z.elim
        obtain ⟨u, rfl, h1'⟩ := h1'
        refine hQ9 u s1' (wpAny_mono h1' (fun _ s2' h2' => ?_) fun _ _ z => z)
        obtain ⟨x, H', I', r', yl, st', fr'⟩ := h2'
        exact ⟨x, σj, H', vs, acc, c, I', r', st', fr', hi9, hv9, hl9, y9 x H' yl⟩
      · rw [hGA]
        intro i v s9 Q E h9 hQ9
        exact wpAny_mono h9 (fun _ s' h' => hQ9 s' h') fun _ _ z => z.elim
      · rw [hGA]
        rintro s9 Q E ⟨σj, Hj, vs, acc, c, Ij, st9, fr9, _, hv9, hl9, w9⟩ hQ9
        refine wpAny_mono (T.done GX rfl rfl rfl hcalm n _ s9 σj Hj (fun _ _ => False) Ij (fpS hS fr9) st9 (stop vs σj Hj w9)) (fun r s1' h1' => ?_) fun _ _ z => z.elim
        obtain ⟨rfl, I'⟩ := h1'
        exact hQ9 s1' ⟨σj, Hj, vs, acc, c, I', hv9, hl9, w9⟩
      · rw [hGA]
        rintro i v s9 Q E ⟨x, σj, Hj, vs, acc, c, Ij, r9, st9, fr9, hi9, hv9, hl9, g9⟩ hQ9
        have I5 := Ij.pinned (fpS hS fr9) (T.obj _ _ st9)
        refine wpAny_mono (hg.run _ s9 σj Hj x v _ I5 r9 g9) (fun _ s6 h6 => ?_) fun _ _ z => (hxe _ _ z).elim
        obtain ⟨σ6, H6, I6, q6⟩ := h6
        exact hQ9 s6 ⟨σ6, H6, s9.heap, vs, acc, c, I6, st9, hv9, hl9, q6⟩
      · rw [hGA]
        rintro i s9 Q E hi9 ⟨σj, Hj, hq, vs, acc, c, Ij, st9, hv9, hl9, t9⟩ hQ9 hQ8
        refine wpAny_mono (ht.run _ s9 σj Hj _ Ij t9) (fun b s6 h6 => ?_) fun _ _ z => (hxe _ _ z).elim
        obtain ⟨H6, I6, q6, q7⟩ := h6
        cases b with
        | true => exact hQ9 s6 ⟨σj, H6, hq, vs, acc, c, I6, st9, hv9, hl9, q6 rfl⟩
        | false =>
          refine hQ8 s6 ⟨σj, H6, vs, acc, c, I6.unpinned, T.keep _ _ _ st9 fun b hb o e => (I6.pin (b, o) (List.mem_append_right _ (List.mem_append_right _ (mem_pinsAt hb e)))).1, fun b hb => ?_, hi9, hv9, Nat.le_succ_of_le hl9, q7 rfl⟩
          obtain ⟨o, e, d⟩ := T.obj _ _ st9 b hb
          exact (I6.pin (b, o) (List.mem_append_right _ (List.mem_append_right _ (mem_pinsAt hb e)))).2.1
      · rw [hGA]
        rintro i s9 Q E hi9 ⟨σj, Hj, hq, vs, acc, c, Ij, st9, hv9, hl9, t9⟩ hQ9
        refine wpAny_mono (he.run _ s9 σj Hj _ Ij t9) (fun u s6 h6 => ?_) fun _ _ z => (hxe _ _ z).elim
        obtain ⟨y, H6, I6, r6, w6⟩ := h6
        refine hQ9 u s6 ⟨σj, H6, vs, y, acc, c, I6.unpinned, T.keep _ _ _ st9 fun b hb o e => (I6.pin (b, o) (List.mem_append_right _ (List.mem_append_right _ (mem_pinsAt hb e)))).1, fun b hb => ?_, hi9, hv9, hl9, r6, w6⟩
        obtain ⟨o, e, d⟩ := T.obj _ _ st9 b hb
        exact (I6.pin (b, o) (List.mem_append_right _ (List.mem_append_right _ (mem_pinsAt hb e)))).2.1
    · rintro A' s9 Q E ⟨σj, Hj, vs, acc, c, Ij, st9, _⟩ q9
      exact T.self A' 0 s9 Q E st9 q9
section
variable {X : Cx} {pins : List (Addr × Obj)} {σ : L2.St} {H : Hp} {s : Shared} {N fr : List Str} {js : List Nat}
theorem gen_madeC {c P : Addr} {elt iter tgt : Expr} {ifs : List Expr} {scope : Scope} {gpos : Pos} {wi : TI} {g : TG} {tt : TT} {te : TE} {k : Nat} {R : List V → Hp → Prop} {Q' : Value → Shared → Prop}
    (hr : Room (k + 1) X.A) (TB : TabB X.base X.mg c P) (hcode : X.env.code = .ref c) (S : GenOk N fr js scope X.env.scope X.N) (hi : PI X tgt iter wi)
    (hg : ∀ A code fp s4 H4, Room k A → PG (gcx X N scope A code fp s4 H4) tgt g) (ht : ∀ A code fp s4 H4, Room k A → PTs (gcx X N scope A code fp s4 H4) ifs tt) (he : ∀ A code fp s4 H4, Room k A → PE (gcx X N scope A code fp s4 H4) elt te)
    (hs : ∀ v, genFold iter X.env v = pure v) (I : Inv X pins σ H s)
    (h : wi σ H fun J H1 => TabG H1 P ∧ ∀ H2, Tabbed P H1 H2 → ∃ n W, n ≤ sizeLine ∧ W 0 [] (startF N [] (js.map (slotAt σ))) H2 ∧ TurnsC J g tt te n W ∧ ∀ vs σ' H', W n vs σ' H' → R vs H')
    (hQ : ∀ a gn n s5 (St : Addr → Nat → Shared → Prop) (Yv : Addr → Nat → Value → Shared → Prop), s5.heap.IsGen a gn → (∀ S, s5.heap.objs.size ≤ S → WalkC X.prog X.w X.A.in1.in1.in1 a S (St S) (Yv S) (fun s' => ∃ H' vs acc c, Inv X pins σ H' s' ∧ s'.heap.get? S = some (lstObj acc c) ∧ Vals vs acc.toList ∧ vs.length ≤ sizeLine ∧ R vs H')) →
      (∀ (S : Addr) (h' : Heap) (tk : Nat) (c : Nat), s5.heap.objs.size ≤ S → (∀ b o, s5.heap.get? b = some o → h'.get? b = some o) → h'.get? S = some (lstObj #[] c) → St S n { s5 with heap := h', toks := tk }) → Q' (.ref a) s5) :
    wpAny (model X.prog X.w) X.A (eval (.GeneratorExp elt [⟨tgt, iter, ifs, 0⟩] scope gpos) X.env) Q' X.xe s := by
  refine wpAny_GeneratorExp_make S.co (closure_ok (genFree S I.ok)) S.nocell S.dot S.kind (by have := hr.dp; omega) ?_ hs
  refine thn (hi.run pins s σ H _ I h) fun xv s1 h1 => thn h1 fun itv s2 h2 => ?_
  obtain ⟨it, fp, tn, J, H2, e, I2, T, st2, f2, ⟨ps, hP, htr⟩, q2⟩ := h2
  subst e
  refine ⟨I2.nolimit, ?_⟩
  have hPs : s2.heap.get? P = some { cls := .none, data := .fields ps } := I2.hok P _ hP
  have cd : PySem.W.CodeHd s2.heap c P := TB.code.keeps I2.bk
  have fpP : ∀ b ∈ fp, b ≠ P := fun b hb z => by
    have q := (f2 b hb).1
    rw [z, hP] at q
    cases q
  have cont : ∀ (code : Value) (h3 : Heap) (tk : Nat) (ps' : Array Value), Heap.ExtBut P s2.heap h3 → h3.get? P = some { cls := .none, data := .fields ps' } → (∃ more, ps' = ps ++ more) → TriplesOk ps'.toList →
      wpAny (model X.prog X.w) X.A (builtinsFor X.env.globals X.env.builtins) (fun bi s₄ =>
        ∀ h', h'.Ns s₄.heap.objs.size (fun y => if y = ".0" then some (.ref it) else none) → Heap.SameBut s₄.heap.objs.size (s₄.heap.push { cls := .type "frame", data := .dict #[] }) h' →
          Q' (.ref h'.objs.size) { s₄ with
            gens := s₄.gens.push (.fresh (.compStart (.GeneratorExp elt [⟨tgt, iter, ifs, 0⟩] scope gpos) 0 (.ref it) .none (genEnv scope (cloFrom X.env.cells scope.names []) s₄.heap.objs.size code bi X.env))),
            toks := s₄.toks + 1 + 1 + 1,
            heap := h'.push { cls := .type "generator", data := .fields #[.int s₄.gens.size 0, .str "<genexpr>" (s₄.toks + 1), .str (X.env.qual ++ "<genexpr>") (s₄.toks + 1 + 1)] } }) X.xe { s2 with heap := h3, toks := tk } := by
    intro code h3 tk ps' hx hP3 hmore ht3
    obtain ⟨more, rfl⟩ := hmore
    obtain ⟨bm, ob, e1, e2, e3, e4, e5, e6, e7, e8⟩ := TB.bm
    refine wpAny_builtinsFor (m := X.mg) (by rw [I2.ok.glob]; exact (I2.mod.glob.keeps I2.bk).extBut hx TB.gP) e1 e2 (hx _ _ e4 (I2.bk _ _ e5)) e6 e7 e8 ?_
    have I3 : Inv X pins σ (upd H2 P (.tbl (ps ++ more))) { s2 with heap := h3, toks := tk } := inv_tab (g' := s2.gens) (d' := s2.drawn) (t' := tk) (h' := h3) I2 hP (fun b o hb e => hx b o hb e) hP3 I2.bare
    obtain ⟨n, W, hnz, w0, ⟨step, stop⟩, fin⟩ := q2 _ ⟨⟨ps ++ more, upd_same, ht3⟩, fun b hb => upd_ne hb⟩
    intro h' hn' hs'
    have hsz : h'.objs.size = h3.objs.size + 1 := by rw [hs'.1, Heap.size_push]
    have kp5 : ∀ b u, h3.get? b = some u → (h'.push { cls := .type "generator", data := .fields #[.int s2.gens.size 0, .str "<genexpr>" (tk + 1), .str (X.env.qual ++ "<genexpr>") (tk + 1 + 1)] }).get? b = some u :=
      fun b o e => Heap.get?_push_of_some _ (hs'.extBut b o (Nat.ne_of_lt (Heap.lt_size e)) (Heap.get?_push_of_some _ e))
    have hfp : ∀ b ∈ fp, FpOk X pins (upd H2 P (.tbl (ps ++ more))) b ∧ b < h3.objs.size := fun b hb => by
      refine ⟨⟨by rw [upd_ne (fpP b hb)]; exact (f2 b hb).1, (f2 b hb).2⟩, ?_⟩
      obtain ⟨o, eo, _⟩ := T.obj 0 _ st2 b hb
      exact Heap.lt_size (hx b o (fpP b hb) eo)
    have st3 : tn 0 h3 := T.keep 0 _ _ st2 fun b hb o e => hx b o (fpP b hb) e
    have hbare : AllBare (s2.gens.push (.fresh (.compStart (.GeneratorExp elt [⟨tgt, iter, ifs, 0⟩] scope gpos) 0 (.ref it) .none (genv X scope code h3.objs.size)))) := I2.bare.push rfl
    have hA1 := room_over4 hr (e := elt) (gs := [⟨tgt, iter, ifs, 0⟩]) (sc := scope) (p := gpos) (u := .ref it) (v := .none) (cenv := genv X scope code h3.objs.size)
    have hfr1 := over_frames4 I2.ok.frames (e := elt) (gs := [⟨tgt, iter, ifs, 0⟩]) (sc := scope) (p := gpos) (u := .ref it) (v := .none) (cenv := genv X scope code h3.objs.size)
    generalize hA : X.A.in1.in1.in1.in1.over (.compLoop (.GeneratorExp elt [⟨tgt, iter, ifs, 0⟩] scope gpos) 0 (.ref it) .none (genv X scope code h3.objs.size)) [] = A1 at hA1 hfr1
    have hget : (h'.push { cls := .type "generator", data := .fields #[.int s2.gens.size 0, .str "<genexpr>" (tk + 1), .str (X.env.qual ++ "<genexpr>") (tk + 1 + 1)] }).get? h'.objs.size = some ({ cls := .type "generator", data := .fields #[.int s2.gens.size 0, .str "<genexpr>" (tk + 1), .str (X.env.qual ++ "<genexpr>") (tk + 1 + 1)] } : Obj) := Heap.get?_push_size _ rfl
    have Ig := inv_startG (N := N) (fr := fr) (js := js) (code := code) (fp := fp) (A := A1) (a := h'.objs.size)
      (s' := { s2 with gens := s2.gens.push (.fresh (.compStart (.GeneratorExp elt [⟨tgt, iter, ifs, 0⟩] scope gpos) 0 (.ref it) .none (genv X scope code h3.objs.size))), toks := tk + 1 + 1 + 1, heap := h'.push { cls := .type "generator", data := .fields #[.int s2.gens.size 0, .str "<genexpr>" (tk + 1), .str (X.env.qual ++ "<genexpr>") (tk + 1 + 1)] } })
      S I3 hA1.hd hfr1 hfp (hn'.push _) kp5 rfl hbare hget (by rw [hsz]; exact Nat.lt_succ_self _) (fun v z => by cases z)
    have gok := Ig.ok
    have fpg : ∀ {Hj : Hp}, (∀ b ∈ fp, Hj b = none) → ∀ b ∈ fp, FpOk (gcx X N scope A1 code fp { s2 with heap := h3, toks := tk } (upd H2 P (.tbl (ps ++ more)))) [(h'.objs.size, { cls := .type "generator", data := .fields #[.int s2.gens.size 0, .str "<genexpr>" (tk + 1), .str (X.env.qual ++ "<genexpr>") (tk + 1 + 1)] })] Hj b ∧ b < (h'.push { cls := .type "generator", data := .fields #[.int s2.gens.size 0, .str "<genexpr>" (tk + 1), .str (X.env.qual ++ "<genexpr>") (tk + 1 + 1)] } : Heap).objs.size := fun {Hj} hn b hb => by
      refine ⟨⟨hn b hb, (gok.exf b hb).1, gok.exfs b hb, .inl hb, (gok.exf b hb).2, fun p hp => ?_⟩, ?_⟩
      · have e1 : p.1 = h'.objs.size := by
          rcases List.mem_cons.mp hp with z | z
          · rw [z]
          · cases z
        rw [e1, hsz]
        exact Nat.ne_of_gt (Nat.lt_succ_of_lt (hfp b hb).2)
      · rw [Heap.size_push, hsz]
        exact Nat.lt_succ_of_lt (Nat.lt_succ_of_lt (hfp b hb).2)
    have hout : ∀ (pins' : List (Addr × Obj)) (σ' : L2.St) (H' : Hp) (s' : Shared), Inv (gcx X N scope A1 code fp { s2 with heap := h3, toks := tk } (upd H2 P (.tbl (ps ++ more)))) pins' σ' H' s' → Inv X pins σ H' s' := fun _ _ _ _ j => inv_outG I3 (fun b hb => (hfp b hb).1) j
    obtain ⟨St, Yv, hW, h0⟩ := gen_walkC (X := X) (GX := gcx X N scope A1 code fp { s2 with heap := h3, toks := tk } (upd H2 P (.tbl (ps ++ more)))) (pins := pins) (σ := σ) (gn := s2.gens.size) (n := n) (A' := X.A.in1.in1.in1) (R := R) (elt := elt) (iter := iter) (tgt := tgt) (ifs := ifs) (scope := scope) (gpos := gpos) (it := it)
      hr.hd hr.depth hA rfl (fun _ _ z => z) S.co T (hg A1 code fp _ _ hA1) (ht A1 code fp _ _ hA1) (he A1 code fp _ _ hA1) ⟨_, _, _, hget, rfl, rfl, rfl⟩ (Array.getElem?_push_size ..) Ig w0 (T.keep 0 _ _ st3 fun b hb o e => kp5 b o e) (fun b hb => (hfp b hb).1.1) hnz ⟨step, stop⟩ fin hout fpg
    exact hQ _ s2.gens.size n _ St Yv ⟨_, _, _, hget, rfl, rfl, rfl⟩ hW h0
  cases hf : codeAmong gpos ps.toList with
  | none =>
    refine wpAny_genexprCodeX hcode (cd.code hPs htr) (cd.tab hPs) hf fun c' h' tk hx hge hlt hco' _ htab' _ => ?_
    obtain ⟨o1, vs, f1, tf, fl, tg, inF, tx, tt, op, _, _, _, _, _, _, _, _, _, htr, _⟩ := hco'
    exact cont _ h' tk _ hx htab'.2 ⟨_, rfl⟩ htr
  | some cv =>
    refine wpAny_genexprCode_hit hcode (cd.code hPs htr) hf ?_
    exact cont cv s2.heap s2.toks ps (Heap.ExtBut.refl _ _) hPs ⟨#[], by simp⟩ htr
end
/-- tuple(e for t in it if c) -/
def tTupG (P : Addr) (wi : TI) (g : TG) (tt : TT) (te : TE) (N : List Str) (js : List Nat) : TE := fun σ H Q => wi σ H fun J H1 => TabG H1 P ∧ ∀ H2, Tabbed P H1 H2 →
  ∃ (n : Nat) (W : Nat → List V → L2.St → Hp → Prop), n ≤ sizeLine ∧ W 0 [] (startF N [] (js.map (slotAt σ))) H2 ∧ TurnsC J g tt te n W ∧ ∀ vs σ' H', W n vs σ' H' → ∀ p, H' p = none → Q (.ref p) (upd H' p (.tup vs))
theorem pe_tupG {X : Cx} {N fr : List Str} {js : List Nat} {c P : Addr} {elt iter tgt : Expr} {ifs : List Expr} {scope : Scope} {p pos gpos : Pos} {wi : TI} {g : TG} {tt : TT} {te : TE} {k : Nat}
    (hr : Room (k + 1) X.A) (hG : Gl X "tuple") (hm : X.mg "tuple" = none) (TB : TabB X.base X.mg c P) (hcode : X.env.code = .ref c) (S : GenOk N fr js scope X.env.scope X.N) (hi : PI X tgt iter wi)
    (hg : ∀ A code fp s4 H4, Room k A → PG (gcx X N scope A code fp s4 H4) tgt g) (ht : ∀ A code fp s4 H4, Room k A → PTs (gcx X N scope A code fp s4 H4) ifs tt) (he : ∀ A code fp s4 H4, Room k A → PE (gcx X N scope A code fp s4 H4) elt te)
    (hs : ∀ v, genFold iter X.env v = pure v := by intro _; rfl)
    (hst : starEach [.GeneratorExp elt [⟨tgt, iter, ifs, 0⟩] scope gpos] X.env = (false, eval (.GeneratorExp elt [⟨tgt, iter, ifs, 0⟩] scope gpos) X.env) :: starEach [] X.env := by rfl) :
    PE X (.Call (.Name "tuple" p) [.GeneratorExp elt [⟨tgt, iter, ifs, 0⟩] scope gpos] [] pos) (tTupG P wi g tt te N js) := by
  refine ⟨fun pins s σ H Q I h => ?_⟩
  refine wpAny_Call_Name_kw (ld_blt I hG hm (u := .type "tuple") (by decide +kernel) ?_)
  refine PyProof.Rows.callWith_type1 ?_ hst (by rfl)
  rw [hst]
  show wpAny _ _ (spliced ((false, eval (.GeneratorExp elt [⟨tgt, iter, ifs, 0⟩] scope gpos) X.env) :: backTo pos (starEach [] X.env))) _ _ s
  refine Calls.spliced_cons (gen_madeC (R := fun vs H' => ∀ p, H' p = none → Q (.ref p) (upd H' p (.tup vs))) hr TB hcode S hi hg ht he hs I h fun a gn n s5 St Yv hgen hW h0 => ?_)
  refine Calls.spliced_nil ?_
  refine call_tupleC hW hgen h0 (fun S s' hS ⟨H', vs, acc, c, I', e, hv, hl, q⟩ => ⟨acc, c, e, ?_⟩) fun S s' acc c hS ⟨H', vs, acc', c', I', e', hv, hl, q⟩ e => ?_
  · have := hv.length
    have : acc.size = vs.length := by simpa using this.symm
    omega
  · rw [e] at e'
    cases e'
    have hn : H' s'.heap.objs.size = none := I'.hok.fresh (Nat.le_refl _)
    refine ⟨.ref s'.heap.objs.size, upd H' s'.heap.objs.size (.tup vs), ?_, rfl, q _ hn⟩
    refine I'.laid (t' := s'.toks) (h' := s'.heap.push { cls := .type "tuple", data := .seq acc }) (fun b o e => Heap.get?_push_of_some _ e) (Nat.le_refl _) ?_
    exact ⟨hl, acc.toList, hv, ⟨_, Heap.get?_push_size _ rfl, rfl, 0, by simp⟩⟩
end G

namespace G
open PySem L2 RT PySem.Spec PyProof.Rows
section
variable {P : Program} {w : World} {K : PySem.W.Frag} {mg : Str → Option Value} {base : Heap}
/-- THE RULE for a def by its contract, its code object known -/
theorem ok_ctT {x qual : Str} {st : Stmt} {f cd : Addr} {fd : FuncData} {N ps : List Str} {k : Nat} {T : List Tb} (c : Ct) (F : Fun K x qual st f fd) (hc : fd.code = .ref cd) (S : FnScope N ps (defScope st)) (hn : c.n = ps.length)
    (h : ∀ (A : Around) (outer : List Env) (s : Shared) (H : Hp) (E : XK), Room k (A.deeper (envOfC qual (defScope st) s.heap.objs.size f (.ref cd))) →
      ∃ t, PSs (cxOf CX0 P w K mg base N qual (defScope st) f (.ref cd) A outer s H E).nox (defBody st) t ∧
        ∀ (C : CC K T) xs, xs.length = c.n → c.pre xs → ST C t (xs.map some ++ List.replicate (N.length - xs.length) none) [] (c.ends xs)) :
    FnOk P w K mg base CX0 (k + 1) f fd ps (c.sp K T) := by
  obtain ⟨oc, od, kV, doc, pm, an, cdv, ct, osl, rfl, lk, hcd⟩ := F.ex
  have e : cdv = .ref cd := hc
  subst e
  refine fn_of lk hcd S (fun vs H Q E hs => hs.1.trans hn) fun A outer s H vs Q E hr hs => ?_
  obtain ⟨t, h1, h2⟩ := h A outer s H E hr
  exact ⟨t, h1.nox, ct_body h2 hs⟩
end
/-! ### what the top has left of a def whose code object has a table -/
def FnAtT (K : PySem.W.Frag) (x : Str) (st : Stmt) (c Pt : Addr) : Prop := ∃ (f : Addr) (oc : Value) (od an : Option Addr) (sl : Array (Option Value)) (kV dc pm ct : Value),
  PySem.W.nsIn K mainGlobals x = some (some (.ref f)) ∧ K.lookup f = some ⟨oc, od, .func (PySem.W.fnOf x x (defArgs st) (defBody st) (defScope st) .none kV dc pm an (.ref c) ct), sl⟩ ∧ PySem.W.codeIn K (.ref c) x = true ∧ PySem.W.keepIn K (.ref f) = true ∧
    PySem.W.tabIn K x = some (c, Pt) ∧ K.lookup Pt = none
theorem tabIn_of {K : PySem.W.Frag} {x : Str} {f c Pt : Addr} {oc e : Value} {od dd : Option Addr} {fd : FuncData} {sl sl' : Array (Option Value)} {vs : Array Value} (h1 : PySem.W.nsIn K mainGlobals x = some (some (.ref f))) (h2 : K.lookup f = some ⟨oc, od, .func fd, sl⟩) (h3 : fd.code = .ref c)
    (h4 : K.lookup c = some ⟨e, dd, .fields vs, sl'⟩) (h5 : vs[11]? = some (.ref Pt)) : PySem.W.tabIn K x = some (c, Pt) := by
  unfold PySem.W.tabIn
  rw [h1]
  simp only [h2, h3, h4, h5]
theorem fn_mkT {K : PySem.W.Frag} {x : Str} {st : Stmt} {f c Pt : Addr} {oc : Value} {od an : Option Addr} {sl : Array (Option Value)} {kV dc pm ct e : Value} {dd : Option Addr} {vs : Array Value} {sl' : Array (Option Value)} (h1 : PySem.W.nsIn K mainGlobals x = some (some (.ref f)))
    (h2 : K.lookup f = some ⟨oc, od, .func (PySem.W.fnOf x x (defArgs st) (defBody st) (defScope st) .none kV dc pm an (.ref c) ct), sl⟩) (h3 : PySem.W.codeIn K (.ref c) x = true) (h4 : PySem.W.keepIn K (.ref f) = true) (h5 : K.lookup c = some ⟨e, dd, .fields vs, sl'⟩) (h7 : vs[11]? = some (.ref Pt)) (h6 : K.lookup Pt = none) : FnAtT K x st c Pt :=
  ⟨f, oc, od, an, sl, kV, dc, pm, ct, h1, h2, h3, h4, tabIn_of h1 h2 rfl h5 h7, h6⟩
theorem fn_atT {K : PySem.W.Frag} {x : Str} {st : Stmt} {c Pt : Addr} {h : Heap} {mg : Str → Option Value} (X : K.In h) (G : h.Ns mainGlobals mg) (a : FnAtT K x st c Pt) :
    ∃ (f : Addr) (kV dc pm : Value) (an : Option Addr) (ct : Value), Fun K x x st f (PySem.W.fnOf x x (defArgs st) (defBody st) (defScope st) .none kV dc pm an (.ref c) ct) ∧ mg x = some (.ref f) := by
  obtain ⟨f, oc, od, an, sl, kV, dc, pm, ct, h1, h2, h3, h4, h5, h6⟩ := a
  exact ⟨f, kV, dc, pm, an, ct, fun_mk (st := st) h2 h3 h4, PySem.W.mg_of X G h1⟩
theorem FnAtT.tab {K : PySem.W.Frag} {x : Str} {st : Stmt} {c Pt : Addr} (a : FnAtT K x st c Pt) : PySem.W.tabIn K x = some (c, Pt) ∧ K.lookup Pt = none := by
  obtain ⟨f, oc, od, an, sl, kV, dc, pm, ct, h1, h2, h3, h4, h5, h6⟩ := a
  exact ⟨h5, h6⟩
/-- the tables of the defs -/
def TabOf (q : Program) (K : PySem.W.Frag) (h : Heap) : Prop := ∀ (x : Str) (c Pt : Addr), ((recsOf q).any fun e => e.name == x) = true → PySem.W.tabIn K x = some (c, Pt) → PySem.W.CodeHd h c Pt ∧ h.get? Pt = some { cls := .none, data := .fields #[] }
theorem walk_ofG {l : PySem.W.OpenLaw} {n k : Nat} {q : Program} {loose : List Str} {XP : (Str → Option Value) → Heap → Prop} {YP : World → Heap → Prop} {d : DefRec} {K : Params → PySem.W.Frag} {CX : World → CXT} {x : Str}
    (hn : l.most = some n) (hn2 : n ≤ sizeLine) (hdf : d.params.defaults = []) (hr : Room k callerA) (hY : ∀ (w : World) (h : Heap), YP w h → (K w.params).In h)
    (F : ∀ (w : World) (mg : Str → Option Value) (fa : Addr) (h : Heap), YP w h → (K w.params).In h → h.Ns mainGlobals mg → mg d.name = some (.ref fa) → TabOf q (K w.params) h → LamX.LawAtS l w (K w.params) (CX w) k n x mg fa h)
    (hCX : ∀ (w : World) (H : Hp) (s : Shared) (e : Value) (s' : Shared), CX w [] H s (fun _ _ _ => False) e s' → False) :
    PySem.W.WalkO q loose XP YP l.row.toRowW d [] (fun f vs => PySem.call f vs) := by
  refine Att.attach_callB hn hdf fun w s₀ s₁ mg mb fa o pm cd doc a vs ns G Y ho hd hcd hmg hobj hints hlen hbits hg => ?_
  have KX := hY w _ Y
  have tab : TabOf q (K w.params) s₁.heap := fun x c Pt hx ht => by
    have : ((recsOf q).find? fun e => e.name == x).isSome = true := by rw [List.find?_isSome]; exact List.any_eq_true.mp hx
    obtain ⟨d', hd'⟩ := Option.isSome_iff_exists.mp this
    exact PySem.W.tab_of G.T KX hd' ht
  obtain ⟨fd, cs, sp, hT, nT, C, hb, hsp, hF⟩ := F w mg fa _ Y KX G.T.g hmg tab
  exact LamX.law_callTs KX G.T.g G.T.b G.T.builtins G.T.nolimit hg hT nT C G.T.bmain hobj hints (Nat.le_trans hlen hn2) hr hF hb (fun H hH hS => hsp H a ns hlen hbits hH hS) fun H e s' => hCX w H s₁ e s'
theorem TabQ.empty {H : Hp} {p : Tb} (h : H p.1 = some (.tbl #[])) : TabQ H p := by
  unfold TabQ
  split
  · exact ⟨#[], h, True.intro⟩
  · exact LamX.TabS.nil h
theorem law_readyT {K : PySem.W.Frag} {T : List Tb} {H : Hp} {a : Addr} {ns : List Int} {Q : VK} {Ex : XK} (hT : ∀ p ∈ keysT T, H p = some (.tbl #[])) (hS : SqL K H a (ns.map V.int)) (k : ∀ H', Q (.bl true) H') : c_law.sp K T [.ref a] H Q Ex := by
  refine ⟨rfl, [.d (.list (ns.map .int))], (fun _ => False), (fun _ (z : False) => z.elim), (fun b hb => TabQ.empty (hT b.1 (List.mem_map.mpr ⟨b, hb, rfl⟩))), Paired.cons ?_ Paired.nil, ⟨ns, rfl⟩, fun y F' v H' ⟨hF, hy⟩ _ _ _ _ _ rv => ?_⟩
  · refine Dq.lst ?_ (ints_dps ns)
    rcases hS with hS | hS
    · refine .inl ?_
      have nT : a ∉ keysT T := fun z => by
        have e := hT a z
        rcases hS with hS | ⟨o, hS⟩ <;> rw [e] at hS <;> cases hS
      rcases hS with hS | ⟨o, hS⟩
      · exact .inl (hid_some.mpr ⟨⟨fun z => z, nT, by simp⟩, hS⟩)
      · exact .inr ⟨o, hid_some.mpr ⟨⟨fun z => z, nT, by simp⟩, hS⟩⟩
    · exact .inr hS
  · subst hy
    rw [rv.bl]
    exact k H'
end G

namespace MS
/-- a sum, over the integers -/
def SmI (l : List Nat) (x : Int) : Prop := 0 ≤ x ∧ Sm l x.toNat
theorem smI_nat {l : List Nat} {n : Nat} : SmI l n ↔ Sm l n := by
  unfold SmI
  rw [Int.toNat_natCast]
  exact ⟨fun h => h.2, fun h => ⟨by omega, h⟩⟩
theorem SmI.plus {l : List Nat} {x y : Int} (h : SmI l x) (g : SmI l y) : SmI l (x + y) := by
  obtain ⟨n, rfl⟩ := Int.eq_ofNat_of_zero_le h.1
  obtain ⟨m, rfl⟩ := Int.eq_ofNat_of_zero_le g.1
  have := (smI_nat.mp h).plus (smI_nat.mp g)
  exact smI_nat.mpr this
noncomputable def smIb (l : List Nat) (x : Int) : Bool := decide (0 ≤ x) && smb l x.toNat
theorem smIb_iff {l : List Nat} {x : Int} : smIb l x = true ↔ SmI l x := by
  unfold smIb SmI
  rw [Bool.and_eq_true, decide_eq_true_iff, smb_iff]
/-- no sum, but with every member of l one -/
def IsPf (l : List Nat) (x : Int) : Prop := ¬ SmI l x ∧ ∀ a ∈ l, SmI l (x + a)
open Classical in
noncomputable def pfb (l : List Nat) (x : Int) : Bool := decide (IsPf l x)
theorem pfb_iff {l : List Nat} {x : Int} : pfb l x = true ↔ IsPf l x := by unfold pfb; simp
noncomputable def pfL (l : List Nat) : List Int := ((List.range (hd l * lst l + 2)).map fun (n : Nat) => (n : Int) - 1).filter (pfb l)
theorem sm_lt {l : List Nat} (so : l.Pairwise (· < ·)) {n : Nat} (h : Sm l n) (hn : n < hd l) : n = 0 := by
  cases h with
  | zero => rfl
  | @add n a ha h =>
    exfalso
    have : hd l ≤ a := by
      cases l with
      | nil => cases ha
      | cons c l =>
        rw [List.pairwise_cons] at so
        rcases List.mem_cons.mp ha with rfl | ha
        · exact Nat.le_refl _
        · exact Nat.le_of_lt (so.1 a ha)
    omega
theorem sm_take {l : List Nat} {n : Nat} (h : Sm l n) : ∀ {i a : Nat}, l.Pairwise (· < ·) → l[i]? = some a → n < a → Sm (l.take i) n := by
  intro i a so ha hn
  have key : ∀ b ∈ l, b < a → b ∈ l.take i := by
    intro b hb hlt
    obtain ⟨j, hj⟩ := List.mem_iff_getElem?.mp hb
    have hji : j < i := by
      apply Nat.lt_of_not_le
      intro hij
      rcases Nat.lt_or_eq_of_le hij with hij | hij
      · obtain ⟨h1, e1⟩ := List.getElem?_eq_some_iff.mp ha
        obtain ⟨h2, e2⟩ := List.getElem?_eq_some_iff.mp hj
        have := List.pairwise_iff_getElem.mp so i j h1 h2 hij
        omega
      · subst hij
        rw [ha] at hj
        cases hj
        omega
    rw [List.mem_iff_getElem?]
    exact ⟨j, by rw [List.getElem?_take_of_lt hji]; exact hj⟩
  obtain ⟨ms, h1, h2⟩ := sm_list.mp h
  refine sm_list.mpr ⟨ms, fun x hx => key x (h1 x hx) ?_, h2⟩
  have : ∀ (ms : List Nat), x ∈ ms → x ≤ tot ms := by
    intro ms
    induction ms with
    | nil => intro h; cases h
    | cons c ms ih =>
      intro h
      show x ≤ c + tot ms
      rcases List.mem_cons.mp h with rfl | h
      · omega
      · have := ih h
        omega
  have := this ms hx
  omega
theorem base_one {l : List Nat} (b : Base l) (h : hd l = 1) : l = [1] := by
  cases l with
  | nil => exact absurd rfl b.ne
  | cons c l =>
    have hc : c = 1 := h
    subst hc
    cases l with
    | nil => rfl
    | cons d l =>
      exfalso
      refine b.min 1 d rfl ?_
      have := Sm.mul d (Sm.one (l := [1]) (a := 1) (by simp))
      rwa [Nat.mul_one] at this
theorem base_two {l : List Nat} (b : Base l) (h : l ≠ [1]) : ∃ a, l[1]? = some a := by
  cases l with
  | nil => exact absurd rfl b.ne
  | cons c l =>
    cases l with
    | nil =>
      have g := b.gcd
      have : c = 1 := by
        show c = 1
        have g : Nat.gcd c 0 = 1 := g
        rwa [Nat.gcd_zero_right] at g
      rw [this] at h
      exact absurd rfl h
    | cons d l => exact ⟨d, rfl⟩
theorem pf_lo {l : List Nat} (b : Base l) (h : l ≠ [1]) {x : Int} (p : IsPf l x) : 1 ≤ x := by
  obtain ⟨p1, p2⟩ := p
  have h1 := b.hd_pos
  apply Classical.byContradiction
  intro hx
  have q := p2 _ (hd_mem b.ne)
  by_cases hx0 : x = 0
  · subst hx0
    exact p1 ⟨by omega, .zero⟩
  have hz := sm_lt b.so q.2 (by have := q.1; omega)
  obtain ⟨a, ha⟩ := base_two b h
  have hx2 : x = -(hd l : Int) := by have := q.1; omega
  have am : a ∈ l := List.mem_of_getElem? ha
  have r := p2 a am
  have hlt : hd l < a := by
    cases l with
    | nil => cases am
    | cons c l =>
      cases l with
      | nil => cases ha
      | cons d l =>
        cases ha
        have so := b.so
        rw [List.pairwise_cons] at so
        exact so.1 a (by simp)
  have e : (x + (a : Int)).toNat = a - hd l := by omega
  have r2 := r.2
  rw [e] at r2
  have t := sm_take r2 b.so ha (by omega)
  refine b.min 1 a ha ?_
  have u : Sm (l.take 1) (hd l) := .one (by
    cases l with
    | nil => exact absurd rfl b.ne
    | cons c l => simp [hd])
  have := t.plus u
  rwa [Nat.sub_add_cancel (Nat.le_of_lt hlt)] at this
theorem pf_one {x : Int} (p : IsPf [1] x) : x = -1 := by
  obtain ⟨p1, p2⟩ := p
  have q := p2 1 (by simp)
  have all : ∀ n, Sm [1] n := fun n => by
    have := Sm.mul n (Sm.one (l := [1]) (a := 1) (by simp))
    rwa [Nat.mul_one] at this
  have : ¬ 0 ≤ x := fun h => p1 ⟨h, all _⟩
  have := q.1
  omega
theorem pf_hi {l : List Nat} {x g : Int} (ht : IsTop l g) (p : IsPf l x) (hx : 0 ≤ x) : x ≤ g := by
  apply Classical.byContradiction
  intro h
  refine p.1 ⟨hx, ht.up _ (by omega)⟩
theorem pf_low {l : List Nat} (b : Base l) {x : Int} (p : IsPf l x) : -1 ≤ x := by
  by_cases h : l = [1]
  · subst h
    have := pf_one p
    omega
  · have := pf_lo b h p
    omega
theorem mem_pfL {l : List Nat} (b : Base l) {x : Int} : x ∈ pfL l ↔ IsPf l x := by
  unfold pfL
  rw [List.mem_filter, pfb_iff]
  refine ⟨fun h => h.2, fun h => ⟨?_, h⟩⟩
  have h1 := pf_low b h
  refine List.mem_map.mpr ⟨(x + 1).toNat, List.mem_range.mpr ?_, by omega⟩
  apply Nat.lt_of_not_le
  intro hc
  refine h.1 ⟨by omega, b.big ?_⟩
  omega
theorem pfL_len {l : List Nat} (b : Base l) : (pfL l).length ≤ hd l * lst l + 2 := by
  refine Nat.le_trans (List.length_filter_le _ _) ?_
  rw [List.length_map, List.length_range]
  exact Nat.le_refl _
/-- a top that may be added -/
noncomputable def addb (l : List Nat) (x : Int) : Bool := decide (0 < x) && smIb l (2 * x)
theorem addb_iff {l : List Nat} {x : Int} : addb l x = true ↔ 0 < x ∧ SmI l (2 * x) := by
  unfold addb
  rw [Bool.and_eq_true, decide_eq_true_iff, smIb_iff]
theorem pfL_so (l : List Nat) : (pfL l).Pairwise (· < ·) := by
  unfold pfL
  refine List.Pairwise.filter _ ?_
  rw [List.pairwise_map]
  exact List.pairwise_lt_range.imp fun h => by omega
theorem so_ext : ∀ {xs ys : List Int}, xs.Pairwise (· < ·) → ys.Pairwise (· < ·) → (∀ k, k ∈ xs ↔ k ∈ ys) → xs = ys
  | [], [], _, _, _ => rfl
  | [], y :: ys, _, _, h => absurd ((h y).mpr List.mem_cons_self) (by simp)
  | x :: xs, [], _, _, h => absurd ((h x).mp List.mem_cons_self) (by simp)
  | x :: xs, y :: ys, h1, h2, h => by
    rw [List.pairwise_cons] at h1 h2
    have e : x = y := by
      rcases List.mem_cons.mp ((h x).mp List.mem_cons_self) with e | e
      · exact e
      rcases List.mem_cons.mp ((h y).mpr List.mem_cons_self) with e' | e'
      · exact e'.symm
      have := h1.1 y e'
      have := h2.1 x e
      omega
    subst e
    congr 1
    refine so_ext h1.2 h2.2 fun k => ⟨fun hk => ?_, fun hk => ?_⟩
    · have := h1.1 k hk
      rcases List.mem_cons.mp ((h k).mp (List.mem_cons_of_mem _ hk)) with e | e
      · omega
      · exact e
    · have := h2.1 k hk
      rcases List.mem_cons.mp ((h k).mpr (List.mem_cons_of_mem _ hk)) with e | e
      · omega
      · exact e
/-- the tops from the row -/
theorem pf_row {l row : List Nat} (b : Base l) (h : RowN l (hd l) row) {ns' : List Int} (p : ns'.Perm ((row.filter fun (v : Nat) => pfb l ((v : Int) - hd l)).map fun (v : Nat) => (v : Int) - hd l)) (so : ns'.Pairwise (· ≤ ·)) : ns' = pfL l := by
  have nd : row.Nodup := by
    rw [List.nodup_iff_pairwise_ne, List.pairwise_iff_getElem]
    intro i j hi hj hij e
    obtain ⟨v, e1, _, g1, _⟩ := h.2 i (by rw [← h.1]; exact hi)
    obtain ⟨w, e2, _, g2, _⟩ := h.2 j (by rw [← h.1]; exact hj)
    rw [List.getElem?_eq_getElem hi] at e1
    rw [List.getElem?_eq_getElem hj] at e2
    cases e1
    cases e2
    rw [e] at g1
    omega
  have nd2 : ns'.Nodup := by
    refine p.nodup_iff.mpr ?_
    rw [List.nodup_iff_pairwise_ne, List.pairwise_map]
    exact (List.Pairwise.filter _ (List.nodup_iff_pairwise_ne.mp nd)).imp fun h => by omega
  have so2 : ns'.Pairwise (· < ·) := by
    refine (so.and (List.nodup_iff_pairwise_ne.mp nd2)).imp fun h => ?_
    obtain ⟨h1, h2⟩ := h
    omega
  refine so_ext so2 (pfL_so l) fun k => ?_
  rw [p.mem_iff, mem_pfL b, List.mem_map]
  constructor
  · rintro ⟨v, hv, rfl⟩
    exact pfb_iff.mp (List.mem_filter.mp hv).2
  · intro hk
    have q := hk.2 _ (hd_mem b.ne)
    obtain ⟨n, hn⟩ := Int.eq_ofNat_of_zero_le q.1
    rw [hn] at q
    have qs := smI_nat.mp q
    obtain ⟨w, e1, g1, g2, g3⟩ := h.2 (n % hd l) (Nat.mod_lt _ b.hd_pos)
    have hw := g3 n qs rfl
    have e : w = n := by
      apply Classical.byContradiction
      intro hne
      have hle : w + hd l ≤ n := by
        have a1 := Nat.div_add_mod w (hd l)
        have a2 := Nat.div_add_mod n (hd l)
        have a3 : w / hd l < n / hd l := by
          apply Nat.lt_of_not_le
          intro z
          have := Nat.mul_le_mul_left (hd l) z
          omega
        have a4 : hd l * (w / hd l + 1) ≤ hd l * (n / hd l) := Nat.mul_le_mul_left _ a3
        rw [Nat.mul_add, Nat.mul_one] at a4
        omega
      refine hk.1 ?_
      have e3 : k = ((n - hd l : Nat) : Int) := by omega
      rw [e3]
      refine smI_nat.mpr (sm_up (hd_mem b.ne) g1 (by omega) ?_)
      rw [g2]
      have := Nat.add_mod_right (n - hd l) (hd l)
      rwa [Nat.sub_add_cancel (by omega)] at this
    subst e
    have em : w ∈ row := List.mem_of_getElem? e1
    have ek : (w : Int) - hd l = k := by omega
    refine ⟨w, List.mem_filter.mpr ⟨em, ?_⟩, ek⟩
    show pfb l ((w : Int) - hd l) = true
    rw [ek]
    exact pfb_iff.mpr hk
/-- the tops by a walk -/
theorem pf_walk {l : List Nat} {g : Int} (b : Base l) (ht : IsTop l g) {lo : Int} (hlo : (l = [1] ∧ lo = -1) ∨ (l ≠ [1] ∧ lo = 1)) {ns : List Int} (so : ns.Pairwise (· < ·)) (hm : ∀ x, x ∈ ns ↔ lo ≤ x ∧ x ≤ g ∧ IsPf l x) : ns = pfL l := by
  refine so_ext so (pfL_so l) fun k => ?_
  rw [hm, mem_pfL b]
  refine ⟨fun h => h.2.2, fun h => ⟨?_, ?_, h⟩⟩
  · rcases hlo with ⟨rfl, rfl⟩ | ⟨h1, rfl⟩
    · have := pf_one h
      omega
    · exact pf_lo b h1 h
  · by_cases h0 : 0 ≤ k
    · exact pf_hi ht h h0
    · have := ht.lo
      have := pf_low b h
      omega
/-- what a walk from lo has found -/
noncomputable def wkL (l : List Nat) (lo : Int) (i : Nat) : List Int := ((List.range i).map fun (k : Nat) => lo + (k : Int)).filter (pfb l)
theorem wkL_len (l : List Nat) (lo : Int) (i : Nat) : (wkL l lo i).length ≤ i := by
  refine Nat.le_trans (List.length_filter_le _ _) ?_
  rw [List.length_map, List.length_range]
  exact Nat.le_refl _
theorem wkL_yes {l : List Nat} {lo : Int} {i : Nat} (h : pfb l (lo + (i : Int)) = true) : wkL l lo (i + 1) = wkL l lo i ++ [lo + (i : Int)] := by
  unfold wkL
  rw [List.range_succ, List.map_append, List.filter_append, List.map_cons, List.filter_cons, if_pos h]
  rfl
theorem wkL_no {l : List Nat} {lo : Int} {i : Nat} (h : pfb l (lo + (i : Int)) = false) : wkL l lo (i + 1) = wkL l lo i := by
  unfold wkL
  rw [List.range_succ, List.map_append, List.filter_append, List.map_cons, List.filter_cons, if_neg (by rw [h]; exact Bool.false_ne_true)]
  simp
theorem wkL_end {l : List Nat} {g : Int} (b : Base l) (ht : IsTop l g) {lo : Int} (hlo : (l = [1] ∧ lo = -1) ∨ (l ≠ [1] ∧ lo = 1)) : wkL l lo (g + 1 - lo).toNat = pfL l := by
  refine pf_walk b ht hlo ?_ fun x => ?_
  · unfold wkL
    refine List.Pairwise.filter _ ?_
    rw [List.pairwise_map]
    exact List.pairwise_lt_range.imp fun h => by omega
  · unfold wkL
    rw [List.mem_filter, pfb_iff, List.mem_map]
    constructor
    · rintro ⟨⟨k, hk, rfl⟩, h⟩
      have := List.mem_range.mp hk
      exact ⟨by omega, by omega, h⟩
    · rintro ⟨h1, h2, h3⟩
      exact ⟨⟨(x - lo).toNat, List.mem_range.mpr (by omega), by omega⟩, h3⟩
/-- a member is not above twice the greatest gap and one -/
theorem mem_le {l : List Nat} {g : Int} (b : Base l) (ht : IsTop l g) (h : l ≠ [1]) {a : Nat} (ha : a ∈ l) : (a : Int) ≤ 2 * g + 1 := by
  have h1 := b.hd_pos
  have h2 : 2 ≤ hd l := by
    apply Classical.byContradiction
    intro hc
    exact h (base_one b (by omega))
  have hg : (hd l : Int) - 1 ≤ g := by
    apply Classical.byContradiction
    intro hc
    have := ht.up (hd l - 1) (by omega)
    have := sm_lt b.so this (by omega)
    omega
  by_cases e : a = hd l
  · omega
  have hlt : hd l < a := by have := b.hd_le a ha; omega
  apply Classical.byContradiction
  intro hc
  obtain ⟨i, hi⟩ := List.mem_iff_getElem?.mp ha
  have s1 : Sm l (a - hd l) := ht.up _ (by omega)
  have t := sm_take s1 b.so hi (by omega)
  refine b.min i a hi ?_
  have u : Sm (l.take i) (hd l) := .one (by
    have hi0 : i ≠ 0 := by
      rintro rfl
      cases l with
      | nil => cases hi
      | cons c l => cases hi; exact e rfl
    cases l with
    | nil => exact absurd rfl b.ne
    | cons c l =>
      cases i with
      | zero => exact absurd rfl hi0
      | succ i => simp [hd])
  have := t.plus u
  rwa [Nat.sub_add_cancel (Nat.le_of_lt hlt)] at this
/-- adding a gap keeps the sums: by all sums up to twice the greatest gap and one -/
theorem adds_iff {l : List Nat} {g : Int} (b : Base l) (ht : IsTop l g) {x : Nat} (hx : ¬ Sm l x) :
    (∀ n : Nat, 1 ≤ n → (n : Int) < 2 * g + 2 → Sm l n → Sm l (n + x)) ∧ Sm l (x + x) ↔ IsPf l x ∧ SmI l (2 * (x : Int)) := by
  have h1 : l ≠ [1] := fun e => hx (by
    have := Sm.mul x (Sm.one (l := l) (a := 1) (by rw [e]; simp))
    rwa [Nat.mul_one] at this)
  constructor
  · rintro ⟨h, h2⟩
    refine ⟨⟨fun z => hx (smI_nat.mp z), fun a ha => ?_⟩, ?_⟩
    · have := h a (b.pos a ha) (by have := mem_le b ht h1 ha; omega) (.one ha)
      rw [show (x : Int) + (a : Int) = ((a + x : Nat) : Int) by omega]
      exact smI_nat.mpr this
    · rw [show (2 : Int) * (x : Int) = ((x + x : Nat) : Int) by omega]
      exact smI_nat.mpr h2
  · rintro ⟨⟨_, h⟩, h2⟩
    refine ⟨fun n hn _ hs => ?_, ?_⟩
    · cases hs with
      | zero => omega
      | @add m a ha hs =>
        have q := h a ha
        rw [show (x : Int) + (a : Int) = ((x + a : Nat) : Int) by omega] at q
        have := hs.plus (smI_nat.mp q)
        rwa [show m + a + x = m + (x + a) by omega]
    · rw [show (2 : Int) * (x : Int) = ((x + x : Nat) : Int) by omega] at h2
      exact smI_nat.mp h2
/-- the sums up to twice the greatest gap and one, and x -/
noncomputable def moreL (l : List Nat) (g : Int) (x : Nat) : List Int := (((List.range (2 * g + 2 - 1).toNat).filter fun (k : Nat) => smIb l (1 + (k : Int))).map fun (k : Nat) => 1 + (k : Int)) ++ [(x : Int)]
theorem moreL_len (l : List Nat) (g : Int) (x : Nat) : (moreL l g x).length ≤ (2 * g + 2 - 1).toNat + 1 := by
  unfold moreL
  rw [List.length_append, List.length_map]
  have := List.length_filter_le (fun (k : Nat) => smIb l (1 + (k : Int))) (List.range (2 * g + 2 - 1).toNat)
  rw [List.length_range] at this
  show _ + 1 ≤ _
  omega
theorem closed_iff {l : List Nat} {g : Int} (b : Base l) (ht : IsTop l g) {x : Nat} (hx : ¬ Sm l x) :
    (moreL l g x).filter (fun n => !smIb l (n + x) && !decide (n + x ∈ moreL l g x)) = [] ↔ (x : Int) ∈ (pfL l).filter (addb l) := by
  have hx1 : 1 ≤ x := Nat.pos_of_ne_zero fun e => hx (by rw [e]; exact .zero)
  have mm : ∀ n : Int, n ∈ moreL l g x ↔ (1 ≤ n ∧ n < 2 * g + 2 ∧ SmI l n) ∨ n = x := fun n => by
    unfold moreL
    rw [List.mem_append, List.mem_map, List.mem_singleton]
    constructor
    · rintro (⟨k, hk, rfl⟩ | h)
      · obtain ⟨h1, h2⟩ := List.mem_filter.mp hk
        have := List.mem_range.mp h1
        exact .inl ⟨by omega, by omega, smIb_iff.mp h2⟩
      · exact .inr h
    · rintro (⟨h1, h2, h3⟩ | h)
      · refine .inl ⟨(n - 1).toNat, List.mem_filter.mpr ⟨List.mem_range.mpr (by omega), ?_⟩, by omega⟩
        rw [show (1 : Int) + ((n - 1).toNat : Nat) = n by omega]
        exact smIb_iff.mpr h3
      · exact .inr h
  rw [List.filter_eq_nil_iff, List.mem_filter, mem_pfL b, addb_iff]
  have e : (∀ a ∈ moreL l g x, ¬ (!smIb l (a + x) && !decide (a + x ∈ moreL l g x)) = true) ↔ ∀ a ∈ moreL l g x, SmI l (a + x) := by
    constructor
    · intro h a ha
      have q := h a ha
      apply Classical.byContradiction
      intro hn
      apply q
      rw [Bool.and_eq_true, Bool.not_eq_true', Bool.not_eq_true', decide_eq_false_iff_not]
      refine ⟨Bool.eq_false_iff.mpr fun z => hn (smIb_iff.mp z), fun z => ?_⟩
      rcases (mm _).mp z with z | z
      · exact hn z.2.2
      · rcases (mm _).mp ha with y | y <;> omega
    · intro h a ha z
      rw [smIb_iff.mpr (h a ha)] at z
      cases z
  rw [e]
  have := adds_iff b ht hx
  constructor
  · intro h
    have q := this.mp ⟨fun n h1 h2 h3 => ?_, ?_⟩
    · exact ⟨q.1, by omega, q.2⟩
    · have := h n ((mm n).mpr (.inl ⟨by omega, h2, smI_nat.mpr h3⟩))
      rw [show (n : Int) + (x : Int) = ((n + x : Nat) : Int) by omega] at this
      exact smI_nat.mp this
    · have := h x ((mm x).mpr (.inr rfl))
      rw [show (x : Int) + (x : Int) = ((x + x : Nat) : Int) by omega] at this
      exact smI_nat.mp this
  · rintro ⟨h1, _, h2⟩ a ha
    obtain ⟨q1, q2⟩ := this.mpr ⟨h1, h2⟩
    rcases (mm a).mp ha with ⟨y1, y2, y3⟩ | y
    · obtain ⟨n, rfl⟩ := Int.eq_ofNat_of_zero_le (show 0 ≤ a by omega)
      rw [show (n : Int) + (x : Int) = ((n + x : Nat) : Int) by omega]
      exact smI_nat.mpr (q1 n (by omega) y2 (smI_nat.mp y3))
    · subst y
      rw [show (x : Int) + (x : Int) = ((x + x : Nat) : Int) by omega]
      exact smI_nat.mpr q2
end MS

namespace G
open PySem L2 RT PySem.Spec PyProof.Rows
section
variable {K : PySem.W.Frag} {T : List Tb} {C : CC K T} {S : SS} {F : FP} {P : SV → FP → Prop} {te : TE} {x : SV}
/-- the ints at a value, a list or a tuple -/
def IntsQ (F : FP) (x : SV) (ns : List Int) : Prop := x = .d (.tuple (ns.map .int)) ∨ IntsL F x ns
theorem IntsQ.sq {H : Hp} {ns : List Int} {v : V} (as : As C F H) (h : IntsQ F x ns) (r : RV K (C.hid F H) x v) : ∃ a, v = .ref a ∧ (SqL K H a (ns.map V.int) ∨ SqT K H a (ns.map V.int)) := by
  rcases h with e | h
  · subst e
    cases r with
    | tup hl hd =>
      have e := dps_ints hd
      subst e
      exact ⟨_, rfl, .inr (sqt_sub hid_sub hl)⟩
  · obtain ⟨a, e, q⟩ := h.sq as r
    exact ⟨a, e, .inl q⟩
theorem inV_ints (i : Int) : ∀ ns : List Int, inV (.int i) (ns.map V.int) = decide (i ∈ ns)
  | [] => by simp [inV]
  | n :: ns => by
    have ih := inV_ints i ns
    unfold inV at ih ⊢
    rw [List.map_cons, List.any_cons, ih]
    have e : eqV (.int n) (.int i) = decide (i = n) := by
      by_cases h : i = n
      · subst h; simp [eqV]
      · rw [decide_eq_false h]
        have : ¬ n = i := fun z => h z.symm
        simp [eqV, this]
    rw [e]
    simp [List.mem_cons]
theorem flat_ints (ns : List Int) : (ns.map V.int).all flatV = true := by
  rw [List.all_map]
  exact List.all_eq_true.mpr fun _ _ => rfl
theorem ro_inI {i : Int} {ns : List Int} (h : IntsQ F x ns) (k : P (dB (decide (i ∈ ns))) F) : RO C (rIn K false) (dI i) x F P := fun H v w as rv rw' Q q => by
  obtain ⟨a, rfl, h1⟩ := h.sq as rw'
  rw [rv.int]
  refine ⟨a, _, rfl, h1, rfl, flat_ints ns, ?_⟩
  rw [inV_ints]
  exact q _ H (dB _) F (Sub.refl _) as (rvB _) k
theorem ro_notInI {i : Int} {ns : List Int} (h : IntsQ F x ns) (k : P (dB (!decide (i ∈ ns))) F) : RO C (rIn K true) (dI i) x F P := fun H v w as rv rw' Q q => by
  obtain ⟨a, rfl, h1⟩ := h.sq as rw'
  rw [rv.int]
  refine ⟨a, _, rfl, h1, rfl, flat_ints ns, ?_⟩
  rw [inV_ints]
  exact q _ H (dB _) F (Sub.refl _) as (rvB _) k
theorem pN_d (l : List Nat) : (pN l).map SV.d = l.map fun (n : Nat) => dI n := by
  unfold pN
  rw [List.map_map]
  rfl
theorem dI_d (l : List Int) : (l.map PyData.int).map SV.d = l.map fun (n : Int) => dI n := by
  rw [List.map_map]
  rfl
theorem tj_w {P' : SV → FP → Prop} (h : TJ C te S F P') (k : ∀ x F', P' x F' → P x F') : TJ C te S F P := fun σ H rs as Q q => h σ H rs as Q fun v H' x F' e a r p => q v H' x F' e a r (k x F' p)
/-- data without bools and dicts: equal by == when equal -/
inductive NB : PyData → Prop
  | non : NB .none
  | int (i : Int) : NB (.int i)
  | str (x : Str) : NB (.str x)
  | tup {ds : List PyData} : (∀ d ∈ ds, NB d) → NB (.tuple ds)
  | lst {ds : List PyData} : (∀ d ∈ ds, NB d) → NB (.list ds)
theorem eqvAll_nb : ∀ {ds es : List PyData}, (∀ d ∈ ds, ∀ e, NB e → (PyData.eqv d e = true ↔ d = e)) → (∀ e ∈ es, NB e) → (PyData.eqvAll ds es = true ↔ ds = es)
  | [], [], _, _ => by simp [PyData.eqvAll]
  | [], _ :: _, _, _ => by simp [PyData.eqvAll]
  | _ :: _, [], _, _ => by simp [PyData.eqvAll]
  | d :: ds, e :: es, h, g => by
    simp only [PyData.eqvAll, Bool.and_eq_true, List.cons.injEq]
    rw [h d List.mem_cons_self e (g e List.mem_cons_self), eqvAll_nb (fun x hx => h x (List.mem_cons_of_mem _ hx)) fun x hx => g x (List.mem_cons_of_mem _ hx)]
theorem eqv_nb {d : PyData} (h : NB d) : ∀ e, NB e → (PyData.eqv d e = true ↔ d = e) := by
  induction h with
  | non => intro e he; cases he <;> simp [PyData.eqv]
  | int i => intro e he; cases he <;> simp [PyData.eqv]
  | str x => intro e he; cases he <;> simp [PyData.eqv]
  | tup h ih =>
    intro e he
    cases he with
    | tup g =>
      simp only [PyData.eqv, PyData.tuple.injEq]
      exact eqvAll_nb ih g
    | _ => simp [PyData.eqv]
  | lst h ih =>
    intro e he
    cases he with
    | lst g =>
      simp only [PyData.eqv, PyData.list.injEq]
      exact eqvAll_nb ih g
    | _ => simp [PyData.eqv]
theorem nb_dic {d : PyData} (h : NB d) : noDic d = true := by
  have all : ∀ {ds : List PyData}, (∀ d ∈ ds, noDic d = true) → noDics ds = true := fun {ds} h => by
    induction ds with
    | nil => rfl
    | cons d ds ih =>
      rw [noDics, h d List.mem_cons_self, ih fun x hx => h x (List.mem_cons_of_mem _ hx)]
      rfl
  induction h with
  | non => rfl
  | int i => rfl
  | str x => rfl
  | tup h ih => rw [noDic]; exact all ih
  | lst h ih => rw [noDic]; exact all ih
theorem ro_eqN {d e : PyData} {n m : Nat} (hd : Ok n d) (h1 : n ≤ 60) (he : Ok m e) (h2 : m ≤ 60) (nd : NB d) (ne : NB e) (k : ∀ b, (b = true ↔ d = e) → P (dB b) F) : RO C (rEqD K) (.d d) (.d e) F P := ro_eqD (hd.shaped h1) (he.shaped h2) (k _ (eqv_nb nd e ne)) (nb_dic nd) (nb_dic ne)
theorem ro_neN {d e : PyData} {n m : Nat} (hd : Ok n d) (h1 : n ≤ 60) (he : Ok m e) (h2 : m ≤ 60) (nd : NB d) (ne : NB e) (k : ∀ b, (b = true ↔ d ≠ e) → P (dB b) F) : RO C (rNeD K) (.d d) (.d e) F P := ro_neD (hd.shaped h1) (he.shaped h2) (k _ (by
  have := eqv_nb nd e ne
  rw [Bool.not_eq_true', ← Bool.not_eq_true, not_congr this])) (nb_dic nd) (nb_dic ne)
theorem moreL_d (l : List Nat) (g : Int) (x : Nat) : (MS.moreL l g x).map PyData.int = List.map (fun (k : Nat) => PyData.int (1 + (k : Int))) (List.filter (fun (k : Nat) => MS.smIb l (1 + (k : Int))) (List.range (2 * g + 2 - 1).toNat)) ++ [PyData.int (x : Int)] := by
  unfold MS.moreL
  rw [List.map_append, List.map_map]
  rfl
theorem okI {n : Nat} {l : List Int} : OkAll n (l.map .int) := fun x hx => by
  obtain ⟨i, _, rfl⟩ := List.mem_map.mp hx
  exact .int
theorem nbI (l : List Int) : ∀ d ∈ l.map PyData.int, NB d := fun d hd => by
  obtain ⟨i, _, rfl⟩ := List.mem_map.mp hd
  exact .int _
theorem nbN (l : List Nat) : ∀ d ∈ pN l, NB d := fun d hd => by
  obtain ⟨i, _, rfl⟩ := List.mem_map.mp hd
  exact .int _
/-- tuples of numbers -/
theorem ro_eqTN {l k : List Nat} (hl : l.length ≤ 100000) (hk : k.length ≤ 100000) (h : ∀ b, (b = true ↔ l = k) → P (dB b) F) : RO C (rEqD K) (tN l) (tN k) F P :=
  ro_eqN (n := 1) (m := 1) (.tup (by rw [List.length_map]; omega) okN) (by decide) (.tup (by rw [List.length_map]; omega) okN) (by decide) (.tup (nbN l)) (.tup (nbN k)) fun b hb => h b (hb.trans (by
    rw [PyData.tuple.injEq]
    exact ⟨fun e => pN_inj e, fun e => by rw [e]⟩))
end
end G

namespace G
open PySem L2 RT PySem.Spec PyProof.Rows
/-! ### xs[i] op= e, x *= e -/
def rGetL (K : PySem.W.Frag) : V → V → Hp → VK → Prop := fun o i H Q => ∃ p xs k z, o = .ref p ∧ i = .int k ∧ 0 ≤ k ∧ SqL K H p xs ∧ xs[k.toNat]? = some z ∧ Q z H
theorem get_list {X : Cx} : PGet X (rGetL X.K) := by
  intro pins s σ H o i ov iv Q I ro ri h
  obtain ⟨p, xs, k, z, rfl, rfl, h0, hq, he, q⟩ := h
  cases ro
  obtain ⟨t, rfl⟩ := ri
  obtain ⟨its, r, pl, hz⟩ := I.list hq
  obtain ⟨w, ew, rw'⟩ := r.get he
  have hl := r.length
  have hn := line63
  have h5 : k.toNat < xs.length := (List.getElem?_eq_some_iff.mp he).1
  exact wpAny_getItem_list pl.isList h0 (by omega) (by simpa using ew) ⟨z, H, I, rw', q⟩
theorem k_getL {X : Cx} {K : PySem.W.Frag} (hK : X.K = K) : PGet X (rGetL K) := hK ▸ get_list
def ipM : TIp := fun x y H Q => ∃ i j, x = .int i ∧ y = .int j ∧ CMul i j ∧ Q (.int (i * j)) H
theorem ip_mul {X : Cx} : PIp X .Mult ipM := by
  intro pins s σ H x y v u Q I r1 r2 h
  obtain ⟨i, j, e1, e2, hc, q⟩ := h
  subst e1; subst e2
  obtain ⟨t, rfl⟩ := r1
  obtain ⟨t', rfl⟩ := r2
  exact imul_int ⟨.int _, H, I.tok _, ⟨_, rfl⟩, q⟩ hc.ok
section
variable {K : PySem.W.Frag} {T : List Tb} {C : CC K T} {S : SS} {F : FP} {P : SV → FP → Prop} {te to ti : TE} {E : SE}
theorem st_augM {i : Nat} {a : Int} (hx : S[i]? = some (some (dI a))) (h : TJ C te S F fun y F1 => ∃ b, y = dI b ∧ CMul a b ∧ E.nx (S.set i (some (dI (a * b)))) F1) : ST C (tAug i te ipM) S F E := fun σ H rs as D cv => by
  obtain ⟨v, e, r⟩ := rs.get hx
  refine ⟨v, e, h σ H rs as _ fun w H1 y F1 e1 a1 r1 ⟨b, ey, hc, p⟩ => ?_⟩
  subst ey
  exact ⟨a, b, r.int, r1.int, hc, cv.nx _ H1 _ F1 e1 (RS.set (rvI _) i (rs.sub e1)) a1 p⟩
/-- o[i] op= e, o an owned list, the item an int -/
theorem st_augS {f : Int → Int → Int} (h : TJ C to S F fun o F1 => TJ C ti S F1 fun i F2 => ∃ a k j xs v, o = .m a ∧ i = dI k ∧ 0 ≤ k ∧ k = (j : Nat) ∧ (a, MO.lst xs) ∈ F2 ∧ xs[j]? = some (dI v) ∧
    TJ C te S F2 fun y F3 => ∃ b ys, y = dI b ∧ (a, MO.lst ys) ∈ F3 ∧ j < ys.length ∧ E.nx S (setF F3 a (.lst (ys.set j (dI (f v b)))))) : ST C (tAugS to ti te (rGetL K) (ipI f) rSetL) S F E := fun σ H rs as D cv => by
  refine h σ H rs as _ fun ov H1 o F1 e1 a1 r1 h1 => ?_
  refine h1 σ H1 (rs.sub e1) a1 _ fun iv H2 i F2 e2 a2 r2 ⟨a, k, j, xs, v, eo, ei, h0, hk, hm, hx, h2⟩ => ?_
  subst eo ei hk
  cases (show ov = .ref a from r1)
  obtain ⟨us, g1, g2⟩ := a2.mem _ hm
  obtain ⟨w, ew, rw'⟩ := rvs_get g2 hx
  refine ⟨a, us, (j : Int), w, rfl, r2.int, h0, SqL.of g1, by rw [Int.toNat_natCast]; exact ew, ?_⟩
  refine h2 σ H2 (rs.sub (e1.trans e2)) a2 _ fun yv H3 y F3 e3 a3 r3 ⟨b, ys, ey, hm3, hj, p⟩ => ?_
  subst ey
  obtain ⟨us3, g3, g4⟩ := a3.mem _ hm3
  refine ⟨v, b, rw'.int, r3.int, ?_⟩
  refine ⟨a, us3, (j : Int), j, rfl, r2.int, g3, ?_, ?_⟩
  · rw [← rvs_len g4]
    exact ixN_n hj
  · obtain ⟨e4, a4⟩ := a3.put (o := .lst (us3.set j (.int (f v b)))) (mo' := .lst (ys.set j (dI (f v b)))) hm3 ⟨us3.set j (.int (f v b)), upd_same, rvs_set (rvI _) j g4⟩
    exact cv.nx _ _ _ _ ((e1.trans e2).trans (e3.trans e4)) (rs.sub ((e1.trans e2).trans (e3.trans e4))) a4 p
end
end G

namespace G
open PySem L2 RT PySem.Spec PyProof.Rows
/-! ### zip, enumerate -/
theorem k_zip {X : Cx} {K : PySem.W.Frag} (hK : X.K = K) {e e2 : Expr} {ta : TA} {p pos tpos : Pos} {elts : List Expr} {kk : Nat} (hg : Gl X "zip") (hm : X.mg "zip" = none) (ha : PA X [e, e2] ta)
    (hs : starEach [e, e2] X.env = (false, eval e X.env) :: starEach [e2] X.env := by rfl) (hpl : (backTo pos (starEach [e2] X.env)).any (·.1) = false := by rfl) :
    PI X (.Tuple elts kk tpos) (.Call (.Name "zip" p) [e, e2] [] pos) (RZ.iZipA K ta) := hK ▸ RZ.pi_zipA hg hm ha hs hpl
theorem k_enum {X : Cx} {K : PySem.W.Frag} (hK : X.K = K) {e : Expr} {ta : TA} {p pos tpos : Pos} {elts : List Expr} {kk : Nat} (hg : Gl X "enumerate") (hm : X.mg "enumerate" = none) (ha : PA X [e] ta) (hs : starEach [e] X.env = [(false, eval e X.env)] := by rfl) :
    PI X (.Tuple elts kk tpos) (.Call (.Name "enumerate" p) [e] [] pos) (iEnum K ta) := hK ▸ pi_enum hg hm ha hs
section
variable {K : PySem.W.Frag} {T : List Tb} {C : CC K T} {S : SS} {F : FP} {P : SV → FP → Prop} {PL : List SV → FP → Prop} {te to ti : TE} {tl : TA} {E : SE} {a b : Addr}
theorem walk_zipT {xs ys : List V} {n : Nat} (hn : n = min xs.length ys.length) : Walk (RZ.ItzT K a b) n (fun H => SqT K H a xs ∧ SqT K H b ys) (YPair (fun i => xs[i]?) (fun i => ys[i]?)) := by
  subst hn
  refine ⟨fun i _ hi q => ?_, fun _ q => ⟨xs, ys, q.1, q.2, by omega⟩, fun i H v H' _ q y => ?_⟩
  · have h1 : i < xs.length := by omega
    have h2 : i < ys.length := by omega
    exact ⟨xs, ys, xs[i], ys[i], q.1, q.2, by simp [h1], by simp [h2]⟩
  · obtain ⟨T, x, z, h1, h2, h3, h4, h5⟩ := y
    exact ⟨T, x, z, h1, h2, h3, h4 xs q.1, h5 ys q.2⟩
abbrev pairs (ds es : List PyData) : List SV := (ds.zip es).map fun p => .d (.tuple [p.1, p.2])
theorem pair_step {F2 : FP} {H2 H3 : Hp} {v : V} {xs ys : List V} {ds es : List PyData} {i : Nat} (a2 : As C F2 H2) (h1 : DqAll K (C.hid F2 H2) xs ds) (h2 : DqAll K (C.hid F2 H2) ys es) (hy : YPair (fun i => xs[i]?) (fun i => ys[i]?) i H2 v H3) :
    Ev C F2 H2 F2 H3 ∧ As C F2 H3 ∧ ∃ y, (pairs ds es)[i]? = some y ∧ RV K (C.hid F2 H3) y v := by
  obtain ⟨p, x, z, rfl, hp, rfl, ex, ez⟩ := hy
  obtain ⟨d, ed, rd⟩ := dps_getV h1 ex
  obtain ⟨e, ee, re⟩ := dps_getV h2 ez
  obtain ⟨ev, a3, r3⟩ := a2.newT (p := p) (vs := [x, z]) (ds := [d, e]) hp (.cons rd (.cons re .nil))
  refine ⟨ev, a3, _, ?_, r3⟩
  have : (ds.zip es)[i]? = some (d, e) := List.getElem?_zip_eq_some.mpr ⟨ed, ee⟩
  rw [List.getElem?_map, this]
  rfl
theorem it_zipT (h : TL C tl S F fun xs F1 => ∃ ds es, xs = [.d (.tuple ds), .d (.tuple es)] ∧ PL (pairs ds es) F1) : IT C (RZ.iZipA K tl) S F PL := fun σ H rs as R q => by
  refine h σ H rs as _ fun vs H1 xs F1 e1 a1 r1 ⟨ds, es, ex, p⟩ => ?_
  subst ex
  obtain ⟨v, w, rfl, rv, rw'⟩ := rvs2 r1
  cases rv with
  | tup hl hd =>
  rename_i a us
  cases rw' with
  | tup hl2 hd2 =>
  rename_i b ws
  refine ⟨a, b, us, ws, rfl, .inr ⟨sqt_sub hid_sub hl, sqt_sub hid_sub hl2, ?_⟩⟩
  have hn : (pairs ds es).length = min us.length ws.length := by rw [List.length_map, List.length_zip, dps_len hd, dps_len hd2]
  refine q _ H1 F1 (pairs ds es) _ _ e1 a1 (walk_zipT hn) (fun F2 H2 e a2 => ⟨sqt_sub hid_sub (sqt_sub e hl), sqt_sub hid_sub (sqt_sub e hl2)⟩) (fun i H2 v H3 F2 e a2 hi hy => ?_) p
  exact pair_step a2 (dps_sub e hd) (dps_sub e hd2) hy
theorem it_zipL (h : TL C tl S F fun xs F1 => ∃ ds es, xs = [.d (.list ds), .d (.list es)] ∧ PL (pairs ds es) F1) : IT C (RZ.iZipA K tl) S F PL := fun σ H rs as R q => by
  refine h σ H rs as _ fun vs H1 xs F1 e1 a1 r1 ⟨ds, es, ex, p⟩ => ?_
  subst ex
  obtain ⟨v, w, rfl, rv, rw'⟩ := rvs2 r1
  cases rv with
  | lst hl hd =>
  rename_i a us
  cases rw' with
  | lst hl2 hd2 =>
  rename_i b ws
  refine ⟨a, b, us, ws, rfl, .inl ⟨sql_sub hid_sub hl, sql_sub hid_sub hl2, ?_⟩⟩
  have hn : (pairs ds es).length = min us.length ws.length := by rw [List.length_map, List.length_zip, dps_len hd, dps_len hd2]
  refine q _ H1 F1 (pairs ds es) _ _ e1 a1 (walk_zip hn) (fun F2 H2 e a2 => ⟨sql_sub hid_sub (sql_sub e hl), sql_sub hid_sub (sql_sub e hl2)⟩) (fun i H2 v H3 F2 e a2 hi hy => ?_) p
  exact pair_step a2 (dps_sub e hd) (dps_sub e hd2) hy
theorem it_enumL (h : TL C tl S F fun xs F1 => ∃ ds, xs = [.d (.list ds)] ∧ PL (pairs ((List.range ds.length).map fun i => .int (i : Nat)) ds) F1) : IT C (iEnum K tl) S F PL := fun σ H rs as R q => by
  refine h σ H rs as _ fun vs H1 xs F1 e1 a1 r1 ⟨ds, ex, p⟩ => ?_
  subst ex
  obtain ⟨v, rfl, rv⟩ := rvs1 r1
  cases rv with
  | lst hl hd =>
  rename_i a us
  refine ⟨a, us, rfl, sql_sub hid_sub hl, ?_⟩
  have hn : (pairs ((List.range ds.length).map fun i => .int (i : Nat)) ds).length = us.length := by rw [List.length_map, List.length_zip, dps_len hd, List.length_map, List.length_range, Nat.min_self]
  refine q _ H1 F1 (pairs ((List.range ds.length).map fun i => .int (i : Nat)) ds) _ _ e1 a1 (hn ▸ walk_enum) (fun F2 H2 e a2 => sql_sub hid_sub (sql_sub e hl)) (fun i H2 v H3 F2 e a2 hi hy => ?_) p
  have hd3 := dps_sub e hd
  obtain ⟨p, x, z, rfl, hp, rfl, ex, ez⟩ := hy
  have ex : some (V.int (i : Nat)) = some x := ex
  cases ex
  obtain ⟨d, ed, rd⟩ := dps_getV hd3 ez
  obtain ⟨ev, a3, r3⟩ := a2.newT (p := p) (vs := [.int (i : Nat), z]) (ds := [.int (i : Nat), d]) hp (.cons (.int _) (.cons rd .nil))
  refine ⟨ev, a3, _, ?_, r3⟩
  have hi2 : i < ds.length := (List.getElem?_eq_some_iff.mp ed).1
  have : (((List.range ds.length).map fun i => PyData.int (i : Nat)).zip ds)[i]? = some (.int (i : Nat), d) := List.getElem?_zip_eq_some.mpr ⟨by rw [List.getElem?_map, List.getElem?_range hi2]; rfl, ed⟩
  rw [List.getElem?_map, this]
  rfl
end
/-! ### contracts of pure functions of data -/
def cP1 (pre : PyData → Prop) (f : PyData → PyData) : Ct := ⟨1, fun xs => ∃ d, xs = [.d d] ∧ pre d, fun xs y F => F = [] ∧ ∀ d, xs = [.d d] → pre d → y = .d (f d)⟩
def cP2 (pre : PyData → PyData → Prop) (f : PyData → PyData → PyData) : Ct := ⟨2, fun xs => ∃ d e, xs = [.d d, .d e] ∧ pre d e, fun xs y F => F = [] ∧ ∀ d e, xs = [.d d, .d e] → pre d e → y = .d (f d e)⟩
def cP3 (pre : PyData → PyData → PyData → Prop) (f : PyData → PyData → PyData → PyData) : Ct := ⟨3, fun xs => ∃ d e g, xs = [.d d, .d e, .d g] ∧ pre d e g, fun xs y F => F = [] ∧ ∀ d e g, xs = [.d d, .d e, .d g] → pre d e g → y = .d (f d e g)⟩
section
variable {K : PySem.W.Frag} {T : List Tb} {C : CC K T} {S : SS} {F : FP} {P : SV → FP → Prop}
theorem cl_p1 {pre : PyData → Prop} {f : PyData → PyData} {d : PyData} (hp : pre d) (k : P (.d (f d)) F) : CL C ((cP1 pre f).sp K T) [.d d] F P := cl_ct rfl ⟨d, rfl, hp⟩ fun y F' ⟨e, h⟩ _ => by
  subst e
  rw [h d rfl hp]
  exact k
theorem cl_p2 {pre : PyData → PyData → Prop} {f : PyData → PyData → PyData} {d e : PyData} (hp : pre d e) (k : P (.d (f d e)) F) : CL C ((cP2 pre f).sp K T) [.d d, .d e] F P := cl_ct rfl ⟨d, e, rfl, hp⟩ fun y F' ⟨e1, h⟩ _ => by
  subst e1
  rw [h d e rfl hp]
  exact k
theorem cl_p3 {pre : PyData → PyData → PyData → Prop} {f : PyData → PyData → PyData → PyData} {d e g : PyData} (hp : pre d e g) (k : P (.d (f d e g)) F) : CL C ((cP3 pre f).sp K T) [.d d, .d e, .d g] F P := cl_ct rfl ⟨d, e, g, rfl, hp⟩ fun y F' ⟨e1, h⟩ _ => by
  subst e1
  rw [h d e g rfl hp]
  exact k
theorem ends_p1 {pre : PyData → Prop} {f : PyData → PyData} {d r : PyData} (h : r = f d) : ((cP1 pre f).ends [.d d]).rt (.d r) F := ends_of ⟨rfl, fun d' e _ => by cases e; rw [h]⟩
theorem ends_p2 {pre : PyData → PyData → Prop} {f : PyData → PyData → PyData} {d e r : PyData} (h : r = f d e) : ((cP2 pre f).ends [.d d, .d e]).rt (.d r) F := ends_of ⟨rfl, fun d' e' q _ => by cases q; rw [h]⟩
theorem ends_p3 {pre : PyData → PyData → PyData → Prop} {f : PyData → PyData → PyData → PyData} {d e g r : PyData} (h : r = f d e g) : ((cP3 pre f).ends [.d d, .d e, .d g]).rt (.d r) F := ends_of ⟨rfl, fun d' e' g' q _ => by cases q; rw [h]⟩
end
end G

namespace MS
/-- one step back from the least sum of the class of r by the p-th member -/
structure StepOk (l row : List Nat) (r p : Nat) : Prop where
  ge : 1 ≤ p
  at_ : ∃ a v w q : Nat, l[p]? = some a ∧ row[r]? = some v ∧ (q : Int) = ((r : Int) - a) % (hd l : Int) ∧ row[q]? = some w ∧ w + a = v
theorem back_q {m r a : Nat} (hm : 0 < m) (hr : r < m) : ∃ q : Nat, (q : Int) = ((r : Int) - a) % (m : Int) ∧ q < m ∧ (q + a) % m = r := by
  have h1 := Int.emod_nonneg ((r : Int) - a) (show (m : Int) ≠ 0 by omega)
  have h2 := Int.emod_lt_of_pos ((r : Int) - a) (show (0 : Int) < m by omega)
  obtain ⟨q, hq⟩ := Int.eq_ofNat_of_zero_le h1
  refine ⟨q, hq.symm, by omega, ?_⟩
  have h3 : ((q : Int) + a) % (m : Int) = r := by
    rw [show (q : Int) = ((r : Int) - a) % (m : Int) from hq.symm, Int.emod_add_emod, Int.sub_add_cancel]
    exact Int.emod_eq_of_lt (by omega) (by omega)
  have : (((q + a) % m : Nat) : Int) = r := by
    rw [Int.natCast_emod, Int.natCast_add]
    exact h3
  omega
theorem step_ex {l row : List Nat} (b : Base l) (h : RowN l (hd l) row) {r : Nat} (hr : r < hd l) (h0 : r ≠ 0) : ∃ p, p < l.length ∧ StepOk l row r p := by
  obtain ⟨v, ev, h1, h2, h3⟩ := h.2 r hr
  have hpos := b.hd_pos
  cases h1 with
  | zero =>
    rw [Nat.zero_mod] at h2
    exact absurd h2.symm h0
  | @add n a ha hs =>
    obtain ⟨p, hp⟩ := List.mem_iff_getElem?.mp ha
    have hpl := (List.getElem?_eq_some_iff.mp hp).1
    obtain ⟨q, hq1, hq2, hq3⟩ := back_q (a := a) hpos hr
    obtain ⟨w, ew, g1, g2, g3⟩ := h.2 q hq2
    have hn : n % hd l = q := by
      have e1 : (n + a) % hd l = (q + a) % hd l := by rw [h2, hq3]
      have e2 : n % hd l = q % hd l := by
        have e3 : (((n + a) % hd l : Nat) : Int) = ((q + a) % hd l : Nat) := by rw [e1]
        rw [Int.natCast_emod, Int.natCast_emod, Int.natCast_add, Int.natCast_add] at e3
        have e4 := (Int.emod_add_cancel_right (a : Int)).mp e3
        have e5 : ((n % hd l : Nat) : Int) = ((q % hd l : Nat) : Int) := by rw [Int.natCast_emod, Int.natCast_emod]; exact e4
        omega
      rw [e2, Nat.mod_eq_of_lt hq2]
    have hw := g3 n hs hn
    have hw2 : n + a ≤ w + a := h3 (w + a) (.add ha g1) (by rw [← Nat.mod_add_mod, g2, hq3])
    refine ⟨p, hpl, ?_, a, n + a, w, q, hp, ev, hq1, ew, by omega⟩
    apply Nat.pos_of_ne_zero
    rintro rfl
    have ea : a = hd l := by
      cases l with
      | nil => cases hp
      | cons c l => cases hp; rfl
    have := h3 n hs (by rw [← h2, ea, Nat.add_mod_right])
    omega
/-- counts times members -/
def dotI (l : List Nat) (cs : List Int) : Int := (List.zipWith (fun (a : Nat) (c : Int) => (a : Int) * c) l cs).sum
theorem dotI_set {l : List Nat} {cs : List Int} {p a : Nat} {c d : Int} (h1 : l[p]? = some a) (h2 : cs[p]? = some c) : dotI l (cs.set p d) = dotI l cs + (a : Int) * (d - c) := by
  unfold dotI
  induction l generalizing cs p with
  | nil => cases h1
  | cons x l ih =>
    cases cs with
    | nil => cases h2
    | cons y cs =>
      cases p with
      | zero =>
        cases h1
        cases h2
        simp only [List.set_cons_zero, List.zipWith_cons_cons, List.sum_cons]
        rw [Int.mul_sub]
        omega
      | succ p =>
        have := ih (p := p) (cs := cs) (by simpa using h1) (by simpa using h2)
        simp only [List.set_cons_succ, List.zipWith_cons_cons, List.sum_cons]
        omega
theorem dotI_zero (l : List Nat) : ∀ n, dotI l (List.replicate n 0) = 0 := by
  unfold dotI
  induction l with
  | nil => intro n; cases n <;> rfl
  | cons x l ih =>
    intro n
    cases n with
    | zero => rfl
    | succ n =>
      simp only [List.replicate_succ, List.zipWith_cons_cons, List.sum_cons, ih]
      omega
end MS

namespace G
open PySem L2 RT PySem.Spec PyProof.Rows MS
/-! ### what the judges say, over data -/
def natsOf : PyData → List Nat
  | .tuple ds => ds.map fun d => match d with | .int i => i.toNat | _ => 0
  | _ => []
def intsOf : PyData → List Int
  | .tuple ds => ds.map fun d => match d with | .int i => i | _ => 0
  | _ => []
def intOf : PyData → Int
  | .int i => i
  | _ => 0
def strOf : PyData → Str
  | .str x => x
  | _ => ""
theorem pN_get {l : List Nat} {k a : Nat} (h : l[k]? = some a) : (pN l)[k]? = some (.int (a : Nat)) := map_get h
theorem dotI_zip (l : List Nat) (cs : List Int) : dotI l cs = ((l.zip cs).map fun p => (p.1 : Int) * p.2).sum := by
  unfold dotI
  rw [← List.map_uncurry_zip_eq_zipWith]
  rfl
theorem dotI_range {l : List Nat} : ∀ {cs : List Int}, cs.length = l.length → dotI l cs = ((List.range l.length).map fun k => ((l.getD k 0 : Nat) : Int) * cs.getD k 0).sum := by
  induction l with
  | nil => intro cs h; cases cs <;> rfl
  | cons a l ih =>
    intro cs h
    cases cs with
    | nil => cases h
    | cons c cs =>
      have q := ih (cs := cs) (by simpa using h)
      unfold dotI at q ⊢
      rw [List.zipWith_cons_cons, List.sum_cons, q, List.length_cons, List.range_succ_eq_map, List.map_cons, List.sum_cons, List.map_map]
      rfl
theorem natsOf_pN (l : List Nat) : natsOf (.tuple (pN l)) = l := by
  unfold natsOf pN
  simp [List.map_map, Function.comp_def]
theorem intsOf_map (l : List Int) : intsOf (.tuple (l.map .int)) = l := by
  unfold intsOf
  simp [List.map_map, Function.comp_def]
theorem intOf_int (i : Int) : intOf (.int i) = i := rfl
theorem isTup_ex {d : PyData} (h : isTup d = true) : ∃ ds, d = .tuple ds := by
  cases d <;> first | exact ⟨_, rfl⟩ | cases h
def isIntD (d : PyData) : Bool := isInt d && !isBl d
theorem isIntD_iff {d : PyData} : isIntD d = true ↔ ∃ i, d = .int i := by
  cases d <;> simp [isIntD, isInt, isBl]
def rowD (v : PyData) (n : Int) : Bool := match v with
  | .tuple ds => decide ((ds.length : Int) = n) && ds.all isIntD
  | _ => false
def geD (d : PyData) : Bool := match d with
  | .int i => decide (0 ≤ i)
  | _ => false
def countsD (v : PyData) (n : Int) : Bool := match v with
  | .tuple ds => decide ((ds.length : Int) = n) && ds.all isIntD && ds.all geD
  | _ => false
def wordD (v : PyData) (w : Str) (n : Int) : Bool := match v with
  | .tuple ds => decide ((ds.length : Int) = n) && (match ds.head? with | some (.str x) => x == w | _ => false)
  | _ => false
def itemD (v : PyData) (i : Nat) : PyData := match v with
  | .tuple ds => ds.getD i .none
  | _ => .none
theorem Ok.up {m : Nat} {d : PyData} (h : Ok m d) : Ok (m + 1) d := by
  induction h with
  | non => exact .non
  | bl => exact .bl
  | int => exact .int
  | str h => exact .str h
  | lst h _ ih => exact .lst h ih
  | tup h _ ih => exact .tup h ih
/-- .. or an empty dict -/
def OkD (m : Nat) (v : PyData) : Prop := Ok m v ∨ v = .dict []
theorem OkD.tup {m : Nat} {ds : List PyData} (h : OkD m (.tuple ds)) : Ok m (.tuple ds) := by
  rcases h with h | h
  · exact h
  · cases h
theorem Ok.tup_in {m : Nat} {ds : List PyData} {d : PyData} (h : Ok m (.tuple ds)) (hd : d ∈ ds) : Ok (m - 1) d := by
  cases h with
  | tup _ h => exact h d hd
theorem fil_true {α : Type} (l : List α) : l.filter (fun _ => true) = l := List.filter_eq_self.mpr fun _ _ => rfl
theorem Ok.tup_len {m : Nat} {ds : List PyData} (h : Ok m (.tuple ds)) : ds.length < 16000000 := by
  cases h with
  | tup h _ => exact h
theorem cnt_none (ds : List PyData) : (((ds.filter fun d => !(isIntD d && geD d)).length : Int) == 0) = (true && ds.all isIntD && ds.all geD) := by
  rw [Bool.true_and, Bool.eq_iff_iff, beq_iff_eq, Bool.and_eq_true, List.all_eq_true, List.all_eq_true]
  constructor
  · intro h
    have h := List.filter_eq_nil_iff.mp (List.length_eq_zero_iff.mp (Int.ofNat.inj h))
    refine ⟨fun d hd => ?_, fun d hd => ?_⟩ <;>
    · have := h d hd
      simp at this
      first | exact this.1 | exact this.2
  · rintro ⟨h1, h2⟩
    have : (ds.filter fun d => !(isIntD d && geD d)) = [] := List.filter_eq_nil_iff.mpr fun d hd => by rw [h1 d hd, h2 d hd]; exact Bool.false_ne_true
    rw [this]
    rfl
theorem all_int {ds : List PyData} (h : ds.all isIntD = true) : ∃ is : List Int, ds = is.map .int := by
  induction ds with
  | nil => exact ⟨[], rfl⟩
  | cons d ds ih =>
    rw [List.all_cons, Bool.and_eq_true] at h
    obtain ⟨i, rfl⟩ := isIntD_iff.mp h.1
    obtain ⟨is, rfl⟩ := ih h.2
    exact ⟨i :: is, rfl⟩
theorem countsD_iff {v : PyData} {n : Int} : countsD v n = true ↔ ∃ is : List Int, v = .tuple (is.map .int) ∧ (is.length : Int) = n ∧ ∀ i ∈ is, 0 ≤ i := by
  constructor
  · intro h
    cases v with
    | tuple ds =>
      unfold countsD at h
      simp only [Bool.and_eq_true, decide_eq_true_eq] at h
      obtain ⟨⟨h1, h2⟩, h3⟩ := h
      obtain ⟨is, rfl⟩ := all_int h2
      rw [List.length_map] at h1
      refine ⟨is, rfl, h1, fun i hi => ?_⟩
      have := List.all_eq_true.mp h3 (.int i) (List.mem_map.mpr ⟨i, hi, rfl⟩)
      exact of_decide_eq_true this
    | _ => cases h
  · rintro ⟨is, rfl, h1, h2⟩
    unfold countsD
    simp only [Bool.and_eq_true, decide_eq_true_eq, List.length_map, List.all_eq_true]
    refine ⟨⟨h1, fun d hd => ?_⟩, fun d hd => ?_⟩
    · obtain ⟨i, _, rfl⟩ := List.mem_map.mp hd
      rfl
    · obtain ⟨i, hi, rfl⟩ := List.mem_map.mp hd
      exact decide_eq_true (h2 i hi)
/-- counts that add up -/
def wayL (l : List Nat) (n : Int) (c : PyData) : Bool := countsD c l.length && decide (dotI l (intsOf c) = n)
def atD (c : PyData) (i : Nat) : Int := (intsOf c).getD i 0
/-- a row that keeps out -/
def potL (l : List Nat) (c : PyData) : Bool := countsD c (hd l) && decide (atD c 0 = 0) && (List.range (hd l)).all fun r => l.all fun a => !decide (atD c r + a < atD c ((r + a) % hd l))
def keptL (l : List Nat) (n : Int) (c : PyData) : Bool := potL l c && decide (n < atD c (n % (hd l : Int)).toNat)
def memberL (l : List Nat) (n : Int) (v : PyData) : Bool := if wordD v "in" 2 = true then wayL l n (itemD v 1) else wordD v "out" 2 && keptL l n (itemD v 1)
theorem wordD_get {v : PyData} {w : Str} {k : Int} (hk : 1 < k) (h : wordD v w k = true) : ∃ ds, v = .tuple ds ∧ ds[1]? = some (itemD v 1) := by
  cases v with
  | tuple ds =>
    unfold wordD at h
    simp only [Bool.and_eq_true, decide_eq_true_eq] at h
    refine ⟨ds, rfl, ?_⟩
    have hl : 1 < ds.length := by omega
    unfold itemD
    dsimp only
    rw [List.getD_eq_getElem?_getD, List.getElem?_eq_getElem hl]
    rfl
  | _ => cases h
def c_ismem : Ct := ⟨2, fun xs => ∃ l n, xs = [tN l, dI n] ∧ BaseB l, fun xs y F => F = [] ∧ ∃ b : Bool, y = dB b ∧ ∀ l n, xs = [tN l, dI n] → b = smIb l n⟩
theorem tNI_inj {l k : List Nat} {n m : Int} (h : [tN l, dI n] = [tN k, dI m]) : l = k ∧ n = m := by
  simp only [List.cons.injEq, SV.d.injEq, PyData.tuple.injEq, PyData.int.injEq, and_true] at h
  exact ⟨pN_inj h.1, h.2⟩
def c_last (c : Addr) : Ct := ⟨2, fun xs => ∃ (l row : List Nat) (r : Nat), xs = [oSums c l row, dI (r : Nat)] ∧ BaseB l ∧ RowN l (MS.hd l) row ∧ r < MS.hd l ∧ r ≠ 0, fun xs y F => F = [] ∧ ∃ p : Nat, y = dI p ∧ ∀ (l row : List Nat) (r : Nat), xs = [oSums c l row, dI (r : Nat)] → StepOk l row r p⟩
def c_counts (c : Addr) : Ct := ⟨2, fun xs => ∃ l row n, xs = [oSums c l row, dI n] ∧ BaseB l ∧ RowN l (MS.hd l) row ∧ SmI l n, fun xs y F => F = [] ∧ ∃ cs : List Int, y = .d (.tuple (cs.map .int)) ∧ ∀ l row n, xs = [oSums c l row, dI n] → cs.length = l.length ∧ (∀ i ∈ cs, 0 ≤ i) ∧ dotI l cs = n⟩
theorem ends_nilF {c : Ct} {xs : List SV} {y : SV} {F : FP} (h : c.post xs y []) : (c.ends xs).rt y F := ends_of h
/-- the paper of a member, of none -/
def MPaper (l : List Nat) (n : Int) (d : PyData) : Prop :=
  (SmI l n ∧ ∃ cs : List Int, d = .tuple [.str "in", .tuple (cs.map .int)] ∧ cs.length = l.length ∧ (∀ i ∈ cs, 0 ≤ i) ∧ dotI l cs = n) ∨ (¬ SmI l n ∧ ∃ row : List Nat, d = .tuple [.str "out", .tuple (pN row)] ∧ RowN l (MS.hd l) row)
def c_mpaper : Ct := ⟨2, fun xs => ∃ l n, xs = [tN l, dI n] ∧ BaseB l, fun xs y F => F = [] ∧ ∃ d, y = .d d ∧ ∀ l n, xs = [tN l, dI n] → MPaper l n d⟩
theorem pN_ints (l : List Nat) : pN l = (l.map fun (n : Nat) => (n : Int)).map PyData.int := by
  unfold pN
  rw [List.map_map]
  rfl
theorem atD_pN {row : List Nat} {i v : Nat} (h : row[i]? = some v) : atD (.tuple (pN row)) i = v := by
  unfold atD
  rw [pN_ints, intsOf_map, List.getD_eq_getElem?_getD, List.getElem?_map, h]
  rfl
theorem wordD_two (a w : Str) (x : PyData) : wordD (.tuple [.str a, x]) w 2 = (a == w) := by
  unfold wordD
  simp
theorem MPaper.ok {l : List Nat} {n : Int} {d : PyData} (hb : BaseB l) (h : MPaper l n d) : memberL l n d = true ∧ Ok 2 d := by
  have hbd := hb.bd
  rcases h with ⟨hs, cs, rfl, h1, h2, h3⟩ | ⟨hs, row, rfl, hrow⟩
  · refine ⟨?_, .tup (by show 2 < 16000000; decide) fun d hd => ?_⟩
    · unfold memberL
      rw [if_pos (by rw [wordD_two]; decide +kernel)]
      unfold wayL
      rw [Bool.and_eq_true]
      refine ⟨countsD_iff.mpr ⟨cs, rfl, by omega, h2⟩, decide_eq_true ?_⟩
      show dotI l (intsOf (.tuple (cs.map .int))) = n
      rw [intsOf_map]
      exact h3
    · rcases List.mem_cons.mp hd with rfl | hd
      · exact .str (by decide +kernel)
      · rcases List.mem_cons.mp hd with rfl | hd
        · exact .tup (by rw [List.length_map, h1]; have := hb.len; omega) okI
        · cases hd
  · refine ⟨?_, .tup (by show 2 < 16000000; decide) fun d hd => ?_⟩
    · unfold memberL
      rw [if_neg (by rw [wordD_two]; decide +kernel)]
      rw [Bool.and_eq_true]
      refine ⟨by rw [wordD_two]; decide +kernel, ?_⟩
      show keptL l n (.tuple (pN row)) = true
      have hlen := hrow.1
      unfold keptL potL
      simp only [Bool.and_eq_true, decide_eq_true_eq, List.all_eq_true, List.mem_range, Bool.not_eq_true', decide_eq_false_iff_not]
      refine ⟨⟨⟨?_, ?_⟩, fun r hr a ha => ?_⟩, ?_⟩
      · rw [pN_ints]
        refine countsD_iff.mpr ⟨_, rfl, by rw [List.length_map]; omega, fun i hi => ?_⟩
        obtain ⟨k, _, rfl⟩ := List.mem_map.mp hi
        omega
      · obtain ⟨v, ev, g1, g2, g3⟩ := hrow.2 0 hbd.1
        have := g3 0 .zero (Nat.zero_mod _)
        rw [atD_pN ev]
        omega
      · obtain ⟨v, ev, g1, g2, g3⟩ := hrow.2 r hr
        obtain ⟨w, ew, k1, k2, k3⟩ := hrow.2 ((r + a) % MS.hd l) (Nat.mod_lt _ hbd.1)
        rw [atD_pN ev, atD_pN ew]
        have := k3 (v + a) (.add ha g1) (by rw [← Nat.mod_add_mod, g2])
        omega
      · have e1 := Int.emod_nonneg n (show (MS.hd l : Int) ≠ 0 by omega)
        have e2 := Int.emod_lt_of_pos n (show (0 : Int) < MS.hd l by omega)
        obtain ⟨v, ev, g1, g2, g3⟩ := hrow.2 (n % (MS.hd l : Int)).toNat (by omega)
        rw [atD_pN ev]
        apply Int.lt_of_not_ge
        intro hge
        obtain ⟨nn, rfl⟩ := Int.eq_ofNat_of_zero_le (show 0 ≤ n by omega)
        refine hs (smI_nat.mpr (sm_up (hd_mem hb.b.ne) g1 (by omega) ?_))
        rw [g2]
        have : ((nn % MS.hd l : Nat) : Int) = (nn : Int) % (MS.hd l : Int) := Int.natCast_emod _ _
        omega
    · rcases List.mem_cons.mp hd with rfl | hd
      · exact .str (by decide +kernel)
      · rcases List.mem_cons.mp hd with rfl | hd
        · exact .tup (by rw [List.length_map, hrow.1]; omega) okN
        · cases hd
theorem MPaper.word {l : List Nat} {n : Int} {d : PyData} (h : MPaper l n d) : ∃ (s : Str) (x : PyData), d = .tuple [.str s, x] ∧ PyData.canLay0 (.str s) = true ∧ (s = "in" ↔ SmI l n) := by
  rcases h with ⟨hs, cs, rfl, _⟩ | ⟨hs, row, rfl, _⟩
  · exact ⟨_, _, rfl, by decide +kernel, fun _ => hs, fun _ => rfl⟩
  · exact ⟨_, _, rfl, by decide +kernel, fun z => absurd z (by decide +kernel), fun z => absurd z hs⟩
end G

namespace MS
theorem sumL_mul (c : Nat) : ∀ l : List Nat, sumL (l.map fun x => c * x) = c * sumL l
  | [] => rfl
  | a :: l => by
    show c * a + sumL (l.map fun x => c * x) = c * (a + sumL l)
    rw [sumL_mul c l, Nat.mul_add]
theorem sumL_flat {α : Type} (f : α → List Nat) : ∀ l : List α, sumL (l.flatMap f) = sumL (l.map fun x => sumL (f x))
  | [] => rfl
  | a :: l => by
    rw [List.flatMap_cons, sumL_app, sumL_flat f l]
    rfl
theorem sumL_rep (n w : Nat) : sumL (List.replicate n w) = n * w := by
  induction n with
  | zero => show 0 = 0 * w; omega
  | succ n ih =>
    rw [List.replicate_succ]
    show w + sumL (List.replicate n w) = (n + 1) * w
    rw [ih, Nat.add_mul]
    omega
/-! ### rows of members -/
def compL (l : List Nat) : Nat → List (List (List Nat))
  | 0 => [[[]]]
  | n + 1 => compL l n ++ [(l.filter fun m => decide (m ≤ n + 1)).flatMap fun m => ((compL l n).getD (n + 1 - m) []).map (m :: ·)]
theorem compL_len (l : List Nat) : ∀ n, (compL l n).length = n + 1
  | 0 => rfl
  | n + 1 => by
    show (compL l n ++ [_]).length = _
    rw [List.length_append, compL_len l n]
    rfl
def comps (l : List Nat) (n : Nat) : List (List Nat) := (compL l n).getD n []
theorem getD_app {α : Type} {xs ys : List α} {i : Nat} {d : α} (h : i < xs.length) : (xs ++ ys).getD i d = xs.getD i d := by
  rw [List.getD_eq_getElem?_getD, List.getD_eq_getElem?_getD, List.getElem?_append_left h]
theorem compL_get (l : List Nat) {k : Nat} : ∀ {n : Nat}, k ≤ n → (compL l n).getD k [] = comps l k
  | 0, h => by cases Nat.le_zero.mp h; rfl
  | n + 1, h => by
    by_cases e : k = n + 1
    · subst e; rfl
    · show (compL l n ++ [_]).getD k [] = _
      rw [getD_app (by rw [compL_len]; omega)]
      exact compL_get l (by omega)
theorem comps_zero (l : List Nat) : comps l 0 = [[]] := rfl
theorem comps_succ {l : List Nat} (hl : ∀ a ∈ l, 1 ≤ a) (n : Nat) : comps l (n + 1) = (l.filter fun m => decide (m ≤ n + 1)).flatMap fun m => (comps l (n + 1 - m)).map (m :: ·) := by
  unfold comps
  show (compL l n ++ [_]).getD (n + 1) [] = _
  rw [List.getD_eq_getElem?_getD, List.getElem?_append_right (by rw [compL_len]; omega), compL_len]
  simp only [Nat.sub_self, List.getElem?_cons_zero, Option.getD_some]
  rw [List.flatMap_def, List.flatMap_def]
  congr 1
  apply List.map_congr_left
  intro m hm
  have h1 := hl m (List.mem_filter.mp hm).1
  rw [compL_get l (by omega)]
  rfl
theorem comps_rows {l : List Nat} (hl : ∀ a ∈ l, 1 ≤ a) : ∀ n, ∀ r ∈ comps l n, r.length ≤ n := by
  intro n
  induction n using Nat.strongRecOn with
  | _ n ih =>
    intro r hr
    cases n with
    | zero =>
      rw [comps_zero] at hr
      have : r = [] := by simpa using hr
      rw [this]
      exact Nat.zero_le _
    | succ n =>
      rw [comps_succ hl, List.mem_flatMap] at hr
      obtain ⟨m, hm, hr⟩ := hr
      obtain ⟨r', hr', rfl⟩ := List.mem_map.mp hr
      obtain ⟨h1, h2⟩ := List.mem_filter.mp hm
      have h1 := hl m h1
      have h2 := of_decide_eq_true h2
      have := ih (n + 1 - m) (by omega) r' hr'
      rw [List.length_cons]
      omega
/-- the rows' weights -/
def wsum (l : List Nat) (B n : Nat) : Nat := sumL ((comps l n).map fun r => B ^ (n - r.length))
theorem wsum_succ {l : List Nat} (hl : ∀ a ∈ l, 1 ≤ a) (B n : Nat) : wsum l B (n + 1) = sumL ((l.filter fun m => decide (m ≤ n + 1)).map fun m => B ^ (m - 1) * wsum l B (n + 1 - m)) := by
  unfold wsum
  rw [comps_succ hl, List.map_flatMap, sumL_flat]
  apply sumL_congr
  intro m hm
  obtain ⟨h1, h2⟩ := List.mem_filter.mp hm
  have h1 := hl m h1
  have h2 := of_decide_eq_true h2
  rw [← sumL_mul, List.map_map, List.map_map]
  apply sumL_congr
  intro r hr
  have h3 := comps_rows hl _ r hr
  show B ^ (n + 1 - (m :: r).length) = B ^ (m - 1) * B ^ (n + 1 - m - r.length)
  rw [← Nat.pow_add, List.length_cons]
  congr 1
  omega
/-! ### hits -/
def hstep (l ws row : List Nat) (k : Nat) : Nat := sumL (((l.zip ws).filter fun p => decide (p.1 ≤ k)).map fun p => row.getD (k - p.1) 0 * p.2 * sumL ws ^ (p.1 - 1))
def hitsL (l ws : List Nat) : Nat → List Nat
  | 0 => [1]
  | n + 1 => hitsL l ws n ++ [hstep l ws (hitsL l ws n) (n + 1)]
theorem hitsL_len (l ws : List Nat) : ∀ n, (hitsL l ws n).length = n + 1
  | 0 => rfl
  | n + 1 => by
    show (hitsL l ws n ++ [_]).length = _
    rw [List.length_append, hitsL_len l ws n]
    rfl
def hits (l ws : List Nat) (n : Nat) : Nat := (hitsL l ws n).getD n 0
theorem hitsL_get (l ws : List Nat) {k : Nat} : ∀ {n : Nat}, k ≤ n → (hitsL l ws n).getD k 0 = hits l ws k
  | 0, h => by cases Nat.le_zero.mp h; rfl
  | n + 1, h => by
    by_cases e : k = n + 1
    · subst e; rfl
    · show (hitsL l ws n ++ [_]).getD k 0 = _
      rw [getD_app (by rw [hitsL_len]; omega)]
      exact hitsL_get l ws (by omega)
theorem hits_succ (l ws : List Nat) (n : Nat) : hits l ws (n + 1) = hstep l ws (hitsL l ws n) (n + 1) := by
  unfold hits
  show (hitsL l ws n ++ [_]).getD (n + 1) 0 = _
  rw [List.getD_eq_getElem?_getD, List.getElem?_append_right (by rw [hitsL_len]; omega), hitsL_len]
  simp
theorem zip_rep (w : Nat) : ∀ l : List Nat, l.zip (List.replicate l.length w) = l.map fun m => (m, w)
  | [] => rfl
  | a :: l => by
    rw [List.length_cons, List.replicate_succ, List.zip_cons_cons, zip_rep w l]
    rfl
/-- equal weights -/
theorem hits_eq {l : List Nat} (hl : ∀ a ∈ l, 1 ≤ a) (w : Nat) : ∀ n, hits l (List.replicate l.length w) n = w ^ n * wsum l l.length n := by
  intro n
  induction n using Nat.strongRecOn with
  | _ n ih =>
    cases n with
    | zero =>
      show 1 = w ^ 0 * wsum l l.length 0
      rw [Nat.pow_zero, Nat.one_mul]
      rfl
    | succ n =>
      rw [hits_succ, wsum_succ hl, ← sumL_mul, List.map_map]
      unfold hstep
      rw [zip_rep, List.filter_map, List.map_map, sumL_rep]
      apply sumL_congr
      intro m hm
      obtain ⟨h1, h2⟩ := List.mem_filter.mp hm
      have h1 := hl m h1
      have h2 : m ≤ n + 1 := of_decide_eq_true h2
      show (hitsL l (List.replicate l.length w) n).getD (n + 1 - m) 0 * w * (l.length * w) ^ (m - 1) = w ^ (n + 1) * (l.length ^ (m - 1) * wsum l l.length (n + 1 - m))
      rw [hitsL_get _ _ (by omega), ih (n + 1 - m) (by omega), Nat.mul_pow]
      have e : w ^ (n + 1) = w ^ (n + 1 - m) * w * w ^ (m - 1) := by
        rw [Nat.mul_assoc, ← Nat.pow_succ', ← Nat.pow_add]
        congr 1
        omega
      rw [e]
      generalize w ^ (n + 1 - m) = a
      generalize w ^ (m - 1) = b
      generalize l.length ^ (m - 1) = c
      generalize wsum l l.length (n + 1 - m) = d
      simp only [Nat.mul_assoc, Nat.mul_left_comm, Nat.mul_comm]
def hpart (l ws row : List Nat) (k j : Nat) : Nat := sumL ((((l.zip ws).take j).filter fun p => decide (p.1 ≤ k)).map fun p => row.getD (k - p.1) 0 * p.2 * sumL ws ^ (p.1 - 1))
theorem hpart_yes {l ws row : List Nat} {k j m w : Nat} (h : (l.zip ws)[j]? = some (m, w)) (hm : m ≤ k) : hpart l ws row k (j + 1) = hpart l ws row k j + row.getD (k - m) 0 * w * sumL ws ^ (m - 1) := by
  unfold hpart
  rw [List.take_add_one, h, List.filter_append, List.map_append, sumL_app]
  congr 1
  show sumL (List.map _ (List.filter _ [(m, w)])) = _
  rw [List.filter_cons, if_pos (by exact decide_eq_true hm)]
  exact Nat.add_zero _
theorem hpart_no {l ws row : List Nat} {k j m w : Nat} (h : (l.zip ws)[j]? = some (m, w)) (hm : ¬ m ≤ k) : hpart l ws row k (j + 1) = hpart l ws row k j := by
  unfold hpart
  rw [List.take_add_one, h, List.filter_append, List.map_append, sumL_app]
  have : sumL (List.map (fun p : Nat × Nat => row.getD (k - p.1) 0 * p.2 * sumL ws ^ (p.1 - 1)) (List.filter (fun p => decide (p.1 ≤ k)) (some (m, w)).toList)) = 0 := by
    show sumL (List.map _ (List.filter _ [(m, w)])) = _
    rw [List.filter_cons, if_neg (by rw [decide_eq_false hm]; exact Bool.false_ne_true)]
    rfl
  rw [this]
  rfl
theorem hpart_end (l ws row : List Nat) (k : Nat) {j : Nat} (h : (l.zip ws).length ≤ j) : hpart l ws row k j = hstep l ws row k := by
  unfold hpart hstep
  rw [List.take_of_length_le h]
end MS

namespace G
open PySem L2 RT PySem.Spec PyProof.Rows MS
section
variable {K : PySem.W.Frag} {T : List Tb} {C : CC K T} {S : SS} {F : FP} {P : SV → FP → Prop} {ta tb tc : TE} {r r' : R2}
theorem tj_chain (h : TJ C ta S F fun x F1 => TJ C tb S F1 fun y F2 => RO C r x y F2 fun z F3 => ∃ b, z = dB b ∧ (b = true → TJ C tc S F3 fun w F4 => RO C r' y w F4 P) ∧ (b = false → P (dB false) F3)) : TJ C (tChain r r' ta tb tc) S F P := fun σ H rs as Q q =>
  h σ H rs as _ fun v H1 x F1 e1 a1 r1 h1 => h1 σ H1 (rs.sub e1) a1 _ fun w H2 y F2 e2 a2 r2 h2 => h2 H2 v w a2 (r1.sub e2) r2 _ fun z H3 u F3 e3 a3 r3 ⟨b, ez, hT, hF⟩ => by
    subst ez
    refine ⟨b, r3.bl, ?_⟩
    cases b with
    | true =>
      rw [if_pos rfl]
      exact hT rfl σ H3 (rs.sub ((e1.trans e2).trans e3)) a3 _ fun w' H4 y' F4 e4 a4 r4 h4 => h4 H4 w w' a4 (r2.sub (e3.trans e4)) r4 Q fun z' H5 u' F5 e5 a5 r5 p => q z' H5 u' F5 (((e1.trans e2).trans e3).trans (e4.trans e5)) a5 r5 p
    | false =>
      rw [if_neg Bool.false_ne_true]
      exact q (.bl false) H3 (dB false) F3 ((e1.trans e2).trans e3) a3 (rvB false) (hF rfl)
end
/-- a fraction of that value -/
def FracOf (d : PyData) (H W : Int) : Prop := ∃ p q : Int, d = .tuple [.int p, .int q] ∧ 0 ≤ p ∧ 0 < q ∧ p * W = q * H ∧ q ≤ W ∧ p ≤ H ∧ p = H / (Int.gcd H W : Nat) ∧ q = W / (Int.gcd H W : Nat)
def c_power : Ct := ⟨2, fun xs => ∃ a k : Nat, xs = [dI a, dI k] ∧ a < 2 ^ 60 ∧ k < 2 ^ 60, fun xs y F => F = [] ∧ ∃ v : Nat, y = dI v ∧ ∀ a k : Nat, xs = [dI a, dI k] → v = a ^ k⟩
def c_frac : Ct := ⟨2, fun xs => ∃ a b : Nat, xs = [dI a, dI b] ∧ 0 < b ∧ b < 2 ^ 199, fun xs y F => F = [] ∧ ∃ d, y = .d d ∧ ∀ a b : Nat, xs = [dI a, dI b] → FracOf d a b⟩
theorem frac_low {a b : Nat} (hb : 0 < b) : FracOf (.tuple [.int ((a : Int) / (Nat.gcd a b : Nat)), .int ((b : Int) / (Nat.gcd a b : Nat))]) a b := by
  refine ⟨_, _, rfl, ?_, ?_, ?_, ?_, ?_, rfl, rfl⟩
  all_goals
    obtain ⟨x, hx⟩ := Nat.gcd_dvd_left a b
    obtain ⟨y, hy⟩ := Nat.gcd_dvd_right a b
    have hg : 0 < Nat.gcd a b := Nat.gcd_pos_of_pos_right _ hb
    generalize Nat.gcd a b = g at hx hy hg ⊢
    subst hx hy
    have hy0 : 0 < y := Nat.pos_of_ne_zero fun e => by rw [e, Nat.mul_zero] at hb; exact absurd hb (Nat.lt_irrefl _)
    have e : ∀ z : Nat, ((g * z : Nat) : Int) / (g : Int) = z := fun z => by rw [Int.natCast_mul]; exact Int.mul_ediv_cancel_left _ (by omega)
    have hx1 : x ≤ g * x := Nat.le_mul_of_pos_left x hg
    have hy1 : y ≤ g * y := Nat.le_mul_of_pos_left y hg
    simp only [e]
  · omega
  · omega
  · rw [Int.natCast_mul, Int.natCast_mul]
    generalize (x : Int) = x'
    generalize (y : Int) = y'
    generalize (g : Int) = g'
    rw [Int.mul_left_comm, Int.mul_left_comm y', Int.mul_comm x' y']
  · omega
  · omega
theorem frac_zero {a b : Nat} (hb : 0 < b) (h : ¬ (0 : Int) < (a : Int)) : FracOf (.tuple [.int 0, .int 1]) a b := by
  have ha : a = 0 := by omega
  subst ha
  refine ⟨0, 1, rfl, by decide, by decide, by omega, by omega, by omega, ?_, ?_⟩
  · simp
  · have : Int.gcd ((0 : Nat) : Int) (b : Int) = b := by simp
    rw [this]
    exact (Int.ediv_self (by omega)).symm
/-- bounds on members and weights -/
structure WB (l ws : List Nat) : Prop where
  len : ws.length = l.length
  le : l.length ≤ 60
  pos : ∀ a ∈ l, 1 ≤ a ∧ a ≤ 1000
  ps : ∀ a ∈ l, sumL ws ^ (a - 1) < 2 ^ 63
  wl : ∀ w ∈ ws, w < 2 ^ 50
  sl : sumL ws < 2 ^ 55
def c_hits : Ct := ⟨3, fun xs => ∃ (l ws : List Nat) (n : Nat), xs = [tN l, tN ws, dI n] ∧ WB l ws ∧ n ≤ 1000, fun xs y F => F = [] ∧ ∃ hs : List Nat, y = .d (.list (pN hs)) ∧ ∀ (l ws : List Nat) (n : Nat), xs = [tN l, tN ws, dI n] → hs = hitsL l ws n⟩
def c_hitc : Ct := ⟨3, fun xs => ∃ (l ws : List Nat) (n : Nat), xs = [tN l, tN ws, dI n] ∧ WB l ws ∧ n ≤ 1000 ∧ 0 < sumL ws ∧ sumL ws ^ n < 2 ^ 199, fun xs y F => F = [] ∧ ∃ d, y = .d d ∧ ∀ (l ws : List Nat) (n : Nat), xs = [tN l, tN ws, dI n] → FracOf d (hits l ws n : Nat) (sumL ws ^ n : Nat)⟩
def meanN (l ws : List Nat) : Nat := sumL ((l.zip ws).map fun p => p.1 * p.2)
def c_farc : Ct := ⟨2, fun xs => ∃ l ws : List Nat, xs = [tN l, tN ws] ∧ WB l ws ∧ 0 < meanN l ws ∧ meanN l ws < 2 ^ 199, fun xs y F => F = [] ∧ ∃ d, y = .d d ∧ ∀ l ws : List Nat, xs = [tN l, tN ws] → FracOf d (sumL ws : Nat) (meanN l ws : Nat)⟩
def cntN (l : List Nat) (n : Nat) : List Nat := (List.range (n + 1)).map fun j => (comps l j).length
structure PB (l : List Nat) : Prop where
  le : l.length ≤ 1000
  pos : ∀ a ∈ l, 1 ≤ a
def c_numb : Ct := ⟨2, fun xs => ∃ (l : List Nat) (n : Nat), xs = [tN l, dI n] ∧ PB l ∧ n ≤ 100000, fun xs y F => F = [] ∧ ∃ hs : List Nat, y = .d (.list (pN hs)) ∧ ∀ (l : List Nat) (n : Nat), xs = [tN l, dI n] → hs = cntN l n⟩
def c_rows : Ct := ⟨2, fun xs => ∃ (l : List Nat) (n : Nat), xs = [tN l, dI n] ∧ PB l ∧ n ≤ 100000, fun xs y F => F = [] ∧ ∃ v : Nat, y = dI v ∧ ∀ (l : List Nat) (n : Nat), xs = [tN l, dI n] → v = (comps l n).length⟩
def c_rowat : Ct := ⟨3, fun xs => ∃ (l : List Nat) (n k : Nat), xs = [tN l, dI n, dI k] ∧ PB l ∧ n ≤ 100000 ∧ k < (comps l n).length, fun xs y F => F = [] ∧ ∃ r : List Nat, y = tN r ∧ ∀ (l : List Nat) (n k : Nat), xs = [tN l, dI n, dI k] → (comps l n)[k]? = some r⟩
theorem cntN_get {l : List Nat} {n j : Nat} (h : j ≤ n) : (cntN l n)[j]? = some (comps l j).length := by
  unfold cntN
  rw [List.getElem?_map, List.getElem?_range (by omega)]
  rfl
theorem cntN_succ (l : List Nat) (n : Nat) : cntN l (n + 1) = cntN l n ++ [(comps l (n + 1)).length] := by
  unfold cntN
  rw [List.range_succ, List.map_append]
  rfl
theorem cntN_len (l : List Nat) (n : Nat) : (cntN l n).length = n + 1 := by unfold cntN; simp
theorem comps_cnt {l : List Nat} (hl : ∀ a ∈ l, 1 ≤ a) (n : Nat) : (comps l (n + 1)).length = sumL ((l.filter fun m => decide (m ≤ n + 1)).map fun m => (comps l (n + 1 - m)).length) := by
  rw [comps_succ hl]
  generalize l.filter (fun m => decide (m ≤ n + 1)) = L
  induction L with
  | nil => rfl
  | cons a L ih =>
    rw [List.flatMap_cons, List.length_append, ih, List.length_map]
    rfl
theorem drop_get {α : Type} {L : List α} {j : Nat} {x : α} (h : L[j]? = some x) : L.drop j = x :: L.drop (j + 1) := by
  obtain ⟨h1, h2⟩ := List.getElem?_eq_some_iff.mp h
  rw [List.drop_eq_getElem_cons h1, h2]
theorem sum_cast (L : List Nat) (f : Nat → Nat) : (L.map fun m => ((f m : Nat) : Int)).sum = ((sumL (L.map f) : Nat) : Int) := by
  induction L with
  | nil => rfl
  | cons a L ih =>
    rw [List.map_cons, List.sum_cons, ih]
    show _ = ((f a + sumL (L.map f) : Nat) : Int)
    omega
theorem sum_cast2 {α : Type} (L : List α) (f : α → Nat) : (L.map fun m => ((f m : Nat) : Int)).sum = ((sumL (L.map f) : Nat) : Int) := by
  induction L with
  | nil => rfl
  | cons a L ih =>
    rw [List.map_cons, List.sum_cons, ih]
    show _ = ((f a + sumL (L.map f) : Nat) : Int)
    omega
theorem sum_nats (L : List Nat) : (L.map fun (m : Nat) => (m : Int)).sum = ((sumL L : Nat) : Int) := by
  have := sum_cast L (fun m => m)
  rw [List.map_id'] at this
  exact this
theorem tN2I {l k : List Nat} {n m : Nat} (h : [tN l, dI n] = [tN k, dI m]) : l = k ∧ n = m := tN2_inj h
theorem tN3I {l k l' k' : List Nat} {n m : Nat} (h : [tN l, tN l', dI n] = [tN k, tN k', dI m]) : l = k ∧ l' = k' ∧ n = m := by
  simp only [List.cons.injEq, SV.d.injEq, PyData.tuple.injEq, PyData.int.injEq, and_true] at h
  exact ⟨pN_inj h.1, pN_inj h.2.1, by omega⟩
theorem tN1I {l k : List Nat} {n m n' m' : Nat} (h : [tN l, dI n, dI m] = [tN k, dI n', dI m']) : l = k ∧ n = n' ∧ m = m' := by
  simp only [List.cons.injEq, SV.d.injEq, PyData.tuple.injEq, PyData.int.injEq, and_true] at h
  exact ⟨pN_inj h.1, by omega, by omega⟩
theorem tNNI {l k l' k' : List Nat} (h : [tN l, tN l'] = [tN k, tN k']) : l = k ∧ l' = k' := by
  simp only [List.cons.injEq, SV.d.injEq, PyData.tuple.injEq, and_true] at h
  exact ⟨pN_inj h.1, pN_inj h.2⟩
theorem dI2I {a b c d : Nat} (h : [dI a, dI b] = [dI c, dI d]) : a = c ∧ b = d := by
  simp only [List.cons.injEq, SV.d.injEq, PyData.int.injEq, and_true] at h
  omega
theorem pairs_get {l ws : List Nat} {j : Nat} {y : SV} (h : (pairs (pN l) (pN ws))[j]? = some y) : ∃ m w : Nat, (l.zip ws)[j]? = some (m, w) ∧ y = .d (.tuple [.int m, .int w]) := by
  rw [pairs, pN, pN, List.zip_map, List.map_map, List.getElem?_map] at h
  obtain ⟨⟨m, w⟩, h1, rfl⟩ := Option.map_eq_some_iff.mp h
  exact ⟨m, w, h1, rfl⟩
end G

namespace G
open PySem L2 RT PySem.Spec PyProof.Rows MS
/-! ### a tuple n times, once too -/
theorem tupOnce (l : Addr) (items : Array Value) (n : Nat) (dd : Option Addr) (sl : Array (Option Value)) (u : Tok) :
    Meets (Builtin.«tuple.__mul__» ⟨[.ref l, .int 1 u], []⟩) (fun _ R s => s.heap.get? l = some { cls := .type "tuple", dict := dd, data := .seq items n, slots := sl } ∧ R (.ok (.ret (Value.ref l))) s) :=
  .of_wp fun prog w A R s h => by
    obtain ⟨hp, g, d, tk, os⟩ := s; obtain ⟨hl, h⟩ := h; have f1 := AutoSeq1.idx_int; wp_walk using wpAny_loadPart' hl
    exact ⟨_, rfl, h⟩
def rRepO (K : PySem.W.Frag) : R2 := fun x y H Q => ∃ l xs, x = .ref l ∧ y = .int 1 ∧ SqT K H l xs ∧ Q (.ref l) H
theorem op_repO {X : Cx} : OpR X (binaryOp .Mult) (rRepO X.K) := fun pins s σ H x y v u Q I rx ry ⟨l, xs, ex, ey, hT, q⟩ => by
  subst ex ey
  cases rx
  obtain ⟨t, rfl⟩ := ry
  obtain ⟨its, r, ⟨⟨cls, dd, data, sl⟩, ho, hc, n, hd⟩, hs⟩ := I.tuple hT
  cases (show cls = _ from hc); cases (show data = _ from hd)
  have hTy : s.TypeIs (.ref l) "tuple" := ⟨_, ho, rfl⟩
  refine wpAny_binaryOp_repeat_ref (T := "tuple") (U := "int") (by decide) hTy (fun z => typeIs_int z 1 t) noFill_tuple_mul F.fills_int_mul F.slot_int_rmul repeat_tuple F.slot_int_index.lookup ?_
  refine call_meets F.slot_int_rmul (typeIs_int s 1 t) F.entry_int_rmul (F.args_int_rmul_2 _ _) (int_rmul_tuple 1 t l its.toArray n dd sl) ⟨ho, rfl, hTy, ?_⟩
  exact call_meets F.slot_tuple_mul hTy F.entry_tuple_mul (F.args_tuple_mul_2 _ _) (tupOnce l its.toArray n dd sl t) ⟨ho, ⟨.ref l, H, I, rfl, q⟩⟩
def rRepA (K : PySem.W.Frag) : R2 := fun x y H Q => rRepT K x y H Q ∨ rRepO K x y H Q
theorem k_repT {X : Cx} {K : PySem.W.Frag} (hK : X.K = K) : OpR X (binaryOp .Mult) (rRepA K) := hK ▸ op_repT.or op_repO
section
variable {K : PySem.W.Frag} {T : List Tb} {C : CC K T} {S : SS} {F : FP} {P : SV → FP → Prop}
theorem dps_flat {H : Hp} {vs : List V} {ds : List PyData} (h : DqAll K H vs ds) : ∀ n, DqAll K H (List.replicate n vs).flatten (List.replicate n ds).flatten
  | 0 => .nil
  | n + 1 => by
    rw [List.replicate_succ, List.replicate_succ, List.flatten_cons, List.flatten_cons]
    exact dps_app h (dps_flat h n)
theorem ro_repTD {ds : List PyData} {k : Nat} (h1 : 1 ≤ k) (h2 : k ≤ 1000) (h3 : ds ≠ []) (h4 : ds.length ≤ 1000) (q : P (.d (.tuple (List.replicate k ds).flatten)) F) : RO C (rRepA K) (.d (.tuple ds)) (dI k) F P := fun H v w as rv rw' Q g => by
  cases rv with
  | tup hl hd =>
  rename_i a us
  rw [rw'.int]
  have hlen := dps_len hd
  by_cases hk : k = 1
  · subst hk
    refine .inr ⟨a, us, rfl, rfl, sqt_sub hid_sub hl, g _ H (.d (.tuple ds)) F (Sub.refl _) as (.tup hl hd) ?_⟩
    rw [show (List.replicate 1 ds).flatten = ds by simp] at q
    exact q
  · refine .inl ⟨a, (k : Int), us, rfl, rfl, sqt_sub hid_sub hl, fun e => h3 ?_, by omega, by omega, by omega, fun p hp => ?_⟩
    · rw [e] at hlen
      exact List.eq_nil_of_length_eq_zero hlen.symm
    · obtain ⟨e4, a4, r4⟩ := as.newT hp (dps_flat hd k)
      rw [Int.toNat_natCast]
      exact g _ _ _ F e4 a4 r4 q
end
def chk (l : List Nat) (w1 w2 m : Nat) : Bool := decide (20 * (((hits l [w1, w2] m * meanN l [w1, w2] : Nat) : Int) - (((w1 + w2) ^ m * (w1 + w2) : Nat) : Int)).natAbs ≤ (w1 + w2) ^ m * meanN l [w1, w2])
theorem chk_all : ∀ l ∈ [[2, 3], [3, 4], [2, 5], [3, 5]], ∀ w1 ∈ [1, 2], ∀ w2 ∈ [1, 2], ∀ j ∈ List.range 9, chk l w1 w2 (72 + j) = true := by decide +kernel
theorem flat_one {α : Type} (x : α) : ∀ n, (List.replicate n [x]).flatten = List.replicate n x
  | 0 => rfl
  | n + 1 => by rw [List.replicate_succ, List.flatten_cons, flat_one x n]; rfl
/-- part of the rows' weights -/
def psum (l : List Nat) (B n i : Nat) : Nat := sumL (((comps l n).take i).map fun r => B ^ (n - r.length))
theorem psum_succ {l : List Nat} {B n i : Nat} {r : List Nat} (h : (comps l n)[i]? = some r) : psum l B n (i + 1) = psum l B n i + B ^ (n - r.length) := by
  unfold psum
  rw [List.take_add_one, h, List.map_append, sumL_app]
  rfl
theorem psum_end {l : List Nat} {B n i : Nat} (h : (comps l n).length ≤ i) : psum l B n i = wsum l B n := by
  unfold psum wsum
  rw [List.take_of_length_le h]
theorem psum_le {l : List Nat} {B n : Nat} (hB : 1 ≤ B) (hn : n ≤ 12) (hB2 : B ≤ 6) : ∀ i, i ≤ (comps l n).length → psum l B n i ≤ i * 6 ^ 12
  | 0, _ => by show sumL [] ≤ _; exact Nat.zero_le _
  | i + 1, h => by
    obtain ⟨r, hr⟩ : ∃ r, (comps l n)[i]? = some r := ⟨_, List.getElem?_eq_getElem (by omega)⟩
    rw [psum_succ hr, Nat.succ_mul]
    have h1 : B ^ (n - r.length) ≤ 6 ^ 12 := Nat.le_trans (Nat.pow_le_pow_left hB2 _) (Nat.pow_le_pow_right (by decide) (by omega))
    have := psum_le (l := l) hB hn hB2 i (Nat.le_of_succ_le h)
    omega
theorem pB_of {l : List Nat} {most : Nat} (h : BaseS l most) : PB l := ⟨by have := h.len; omega, h.b.pos⟩
theorem wB_of {l : List Nat} (h : BaseS l 4) {w : Nat} (hw1 : 1 ≤ w) (hw : w ≤ 3) : WB l (List.replicate l.length w) := by
  have hl := h.len
  have hs : sumL (List.replicate l.length w) ≤ 18 := by
    rw [sumL_rep]
    exact Nat.le_trans (Nat.mul_le_mul hl hw) (by decide)
  refine ⟨by simp, by omega, fun a ha => ⟨h.b.pos a ha, by have := h.le a ha; omega⟩, fun a ha => ?_, fun x hx => ?_, by omega⟩
  · have ha2 := h.le a ha
    have : sumL (List.replicate l.length w) ^ (a - 1) ≤ 18 ^ 12 := Nat.le_trans (Nat.pow_le_pow_left hs _) (Nat.pow_le_pow_right (by decide) (by omega))
    have e : (18 : Nat) ^ 12 < 2 ^ 63 := by decide +kernel
    omega
  · have := List.eq_of_mem_replicate hx
    omega
/-- the rows' share is the chance -/
theorem frac_eq {l : List Nat} {w n : Nat} {p q : Int} (hl : ∀ a ∈ l, 1 ≤ a) (hw : 1 ≤ w) (h : p * ((sumL (List.replicate l.length w) ^ n : Nat) : Int) = q * ((hits l (List.replicate l.length w) n : Nat) : Int)) :
    p * ((l.length ^ n : Nat) : Int) = ((wsum l l.length n : Nat) : Int) * q := by
  rw [hits_eq hl, sumL_rep, Nat.mul_pow] at h
  have hw0 : (0 : Int) < ((w ^ n : Nat) : Int) := by have := Nat.pow_pos (n := n) hw; omega
  generalize w ^ n = a at h hw0
  generalize wsum l l.length n = b at h ⊢
  generalize l.length ^ n = c at h ⊢
  rw [Int.natCast_mul, Int.natCast_mul] at h
  have e : (a : Int) * (p * c) = (a : Int) * (b * q) := by
    rw [Int.mul_left_comm, Int.mul_comm (a : Int) c, h]
    rw [Int.mul_left_comm, Int.mul_comm q b]
  exact Int.eq_of_mul_eq_mul_left (by omega) e
theorem far_ok {p q f g H W M t : Int} (hq : 0 < q) (hg : 0 < g) (hW : 0 < W) (hM : 0 < M) (h1 : p * W = q * H) (h2 : f * M = g * t) (h : 20 * (H * M - W * t).natAbs ≤ (W * M).natAbs) :
    20 * (if p * g - f * q < 0 then -(p * g - f * q) else p * g - f * q) ≤ q * g := by
  have key : (p * g - f * q) * (W * M) = q * g * (H * M - W * t) := by
    have a1 : p * g * (W * M) = q * g * (H * M) := by
      have : p * g * (W * M) = (p * W) * (g * M) := by simp only [Int.mul_assoc, Int.mul_left_comm, Int.mul_comm]
      rw [this, h1]
      simp only [Int.mul_assoc, Int.mul_left_comm, Int.mul_comm]
    have a2 : f * q * (W * M) = q * g * (W * t) := by
      have : f * q * (W * M) = (f * M) * (q * W) := by simp only [Int.mul_assoc, Int.mul_left_comm, Int.mul_comm]
      rw [this, h2]
      simp only [Int.mul_assoc, Int.mul_left_comm, Int.mul_comm]
    rw [Int.sub_mul, a1, a2, ← Int.mul_sub]
  have hWM : 0 < W * M := Int.mul_pos hW hM
  have hqg : 0 < q * g := Int.mul_pos hq hg
  have n1 : (p * g - f * q).natAbs * (W * M).natAbs = (q * g).natAbs * (H * M - W * t).natAbs := by rw [← Int.natAbs_mul, ← Int.natAbs_mul, key]
  have n2 : 20 * (p * g - f * q).natAbs * (W * M).natAbs ≤ (q * g).natAbs * (W * M).natAbs := by
    rw [Nat.mul_assoc, n1, Nat.mul_left_comm]
    exact Nat.mul_le_mul_left _ h
  have n3 : 20 * (p * g - f * q).natAbs ≤ (q * g).natAbs := Nat.le_of_mul_le_mul_right n2 (by omega)
  generalize p * g - f * q = x at n3 ⊢
  generalize q * g = y at n3 hqg ⊢
  split <;> omega
def twoB (l : List Nat) (a b : Nat) : Bool := l.all (fun x => decide (1 ≤ x ∧ x ≤ 5)) && decide (l.length = 2) && decide (1 ≤ a + b ∧ a + b ≤ 4) && decide (0 < meanN l [a, b] ∧ meanN l [a, b] ≤ 100)
theorem two_all : ∀ l ∈ [[2, 3], [3, 4], [2, 5], [3, 5]], ∀ a ∈ [1, 2], ∀ b ∈ [1, 2], twoB l a b = true := by decide +kernel
theorem two_ok {l : List Nat} {a b : Nat} (hl : l ∈ [[2, 3], [3, 4], [2, 5], [3, 5]]) (ha : a ∈ [1, 2]) (hb : b ∈ [1, 2]) :
    WB l [a, b] ∧ 0 < meanN l [a, b] ∧ meanN l [a, b] ≤ 100 ∧ (0 < sumL [a, b] ∧ sumL [a, b] ≤ 4) ∧ ∀ j, j < 9 → sumL [a, b] ^ (72 + j) < 2 ^ 199 := by
  have h := two_all l hl a ha b hb
  unfold twoB at h
  simp only [Bool.and_eq_true, decide_eq_true_eq, List.all_eq_true] at h
  obtain ⟨⟨⟨h1, h2⟩, h3, h4⟩, h5, h6⟩ := h
  have hs : sumL [a, b] = a + b := rfl
  refine ⟨⟨h2.symm, by omega, fun x hx => ⟨(h1 x hx).1, by have := (h1 x hx).2; omega⟩, fun x hx => ?_, fun x hx => ?_, by omega⟩, h5, h6, ⟨by omega, by omega⟩, fun j hj => ?_⟩
  · have h7 := (h1 x hx).2
    have : sumL [a, b] ^ (x - 1) ≤ 4 ^ 4 := Nat.le_trans (Nat.pow_le_pow_left (by omega) _) (Nat.pow_le_pow_right (by decide) (by omega))
    have e : (4 : Nat) ^ 4 < 2 ^ 63 := by decide +kernel
    omega
  · have : x ≤ 2 := by
      simp only [List.mem_cons, List.not_mem_nil, or_false] at hx ha hb
      omega
    omega
  · have : sumL [a, b] ^ (72 + j) ≤ 4 ^ 80 := Nat.le_trans (Nat.pow_le_pow_left (by omega) _) (Nat.pow_le_pow_right (by decide) (by omega))
    exact Nat.lt_of_le_of_lt this (by decide +kernel)
theorem chk_use {l : List Nat} {a b m : Nat} (h : chk l a b m = true) : 20 * (((hits l [a, b] m : Nat) : Int) * ((meanN l [a, b] : Nat) : Int) - ((sumL [a, b] ^ m : Nat) : Int) * ((sumL [a, b] : Nat) : Int)).natAbs ≤ (((sumL [a, b] ^ m : Nat) : Int) * ((meanN l [a, b] : Nat) : Int)).natAbs := by
  have h := of_decide_eq_true h
  rw [show sumL [a, b] = a + b from rfl, ← Int.natCast_mul, ← Int.natCast_mul, ← Int.natCast_mul, Int.natAbs_natCast]
  exact h
end G

namespace MS
/-- a sum below n -/
def sR : Nat → (Nat → Nat) → Nat
  | 0, _ => 0
  | n + 1, f => sR n f + f n
theorem sR_congr {f g : Nat → Nat} : ∀ {n : Nat}, (∀ i, i < n → f i = g i) → sR n f = sR n g
  | 0, _ => rfl
  | n + 1, h => by
    show sR n f + f n = sR n g + g n
    rw [sR_congr fun i hi => h i (by omega), h n (by omega)]
theorem sR_add (f g : Nat → Nat) : ∀ n, sR n (fun i => f i + g i) = sR n f + sR n g
  | 0 => rfl
  | n + 1 => by
    show sR n _ + (f n + g n) = (sR n f + f n) + (sR n g + g n)
    rw [sR_add f g n]
    omega
theorem sR_mul (c : Nat) (f : Nat → Nat) : ∀ n, sR n (fun i => c * f i) = c * sR n f
  | 0 => by show 0 = c * 0; omega
  | n + 1 => by
    show sR n _ + _ = c * (sR n f + f n)
    rw [sR_mul c f n, Nat.mul_add]
theorem sR_zero {f : Nat → Nat} {n : Nat} (h : ∀ i, i < n → f i = 0) : sR n f = 0 := by
  induction n with
  | zero => rfl
  | succ n ih =>
    show sR n f + f n = 0
    rw [ih fun i hi => h i (by omega), h n (by omega)]
theorem sR_one {f : Nat → Nat} {n i : Nat} (hi : i < n) (h : ∀ b, b < n → b ≠ i → f b = 0) : sR n f = f i := by
  induction n with
  | zero => omega
  | succ n ih =>
    show sR n f + f n = f i
    by_cases e : i = n
    · subst e
      rw [sR_zero fun b hb => h b (by omega) (by omega), Nat.zero_add]
    · rw [ih (by omega) fun b hb hne => h b (by omega) hne, h n (by omega) (fun z => e z.symm), Nat.add_zero]
theorem sR_shift (f : Nat → Nat) (a : Nat) : ∀ c, sR (a + c) (fun i => if a ≤ i then f (i - a) else 0) = sR c f
  | 0 => sR_zero fun i hi => if_neg (by omega)
  | c + 1 => by
    show sR (a + c) _ + (if a ≤ a + c then f (a + c - a) else 0) = sR c f + f c
    rw [sR_shift f a c, if_pos (by omega), Nat.add_sub_cancel_left]
theorem sR_cut (f : Nat → Nat) {m L : Nat} (h : m ≤ L) : sR L (fun k => if k < m then f k else 0) = sR m f := by
  obtain ⟨c, rfl⟩ := Nat.exists_eq_add_of_le h
  induction c with
  | zero => exact sR_congr fun i hi => if_pos hi
  | succ c ih =>
    show sR (m + c) _ + (if m + c < m then _ else 0) = _
    rw [ih (by omega), if_neg (by omega)]
    rfl
/-- b = n + k - m -/
theorem sR_jump (φ : Nat → Nat) {n m L : Nat} (h : m ≤ L) : sR L (fun k => if k < m ∧ m ≤ n + k then φ (n + k - m) else 0) = sR n (fun b => if n ≤ m + b then φ b else 0) := by
  have e1 : sR L (fun k => if k < m ∧ m ≤ n + k then φ (n + k - m) else 0) = sR m (fun k => if m ≤ n + k then φ (n + k - m) else 0) := by
    rw [← sR_cut _ h]
    refine sR_congr fun k _ => ?_
    by_cases hk : k < m
    · rw [if_pos hk]
      by_cases h2 : m ≤ n + k
      · rw [if_pos ⟨hk, h2⟩, if_pos h2]
      · rw [if_neg (fun z => h2 z.2), if_neg h2]
    · rw [if_neg (fun z => hk z.1), if_neg hk]
  rw [e1]
  by_cases hmn : m ≤ n
  · have e2 : sR n (fun b => if n ≤ m + b then φ b else 0) = sR ((n - m) + m) (fun b => if n - m ≤ b then (fun i => φ (n - m + i)) (b - (n - m)) else 0) := by
      rw [Nat.sub_add_cancel hmn]
      refine sR_congr fun b _ => ?_
      by_cases hb : n ≤ m + b
      · rw [if_pos hb, if_pos (by omega)]
        show φ b = φ (n - m + (b - (n - m)))
        congr 1
        omega
      · rw [if_neg hb, if_neg (by omega)]
    rw [e2, sR_shift (fun i => φ (n - m + i))]
    refine sR_congr fun k _ => ?_
    rw [if_pos (by omega)]
    congr 1
    omega
  · have e2 : sR m (fun k => if m ≤ n + k then φ (n + k - m) else 0) = sR ((m - n) + n) (fun k => if m - n ≤ k then φ (k - (m - n)) else 0) := by
      rw [Nat.sub_add_cancel (by omega)]
      refine sR_congr fun k _ => ?_
      by_cases hk : m ≤ n + k
      · rw [if_pos hk, if_pos (by omega)]
        congr 1
        omega
      · rw [if_neg hk, if_neg (by omega)]
    rw [e2, sR_shift]
    refine sR_congr fun b _ => ?_
    rw [if_pos (by omega)]
/-- over the members and weights -/
def sZ (Z : List (Nat × Nat)) (g : Nat × Nat → Nat) : Nat := sumL (Z.map g)
theorem sZ_filter (P : Nat × Nat → Bool) (g : Nat × Nat → Nat) : ∀ Z, sumL ((Z.filter P).map g) = sZ Z fun p => if P p = true then g p else 0
  | [] => rfl
  | p :: Z => by
    unfold sZ
    rw [List.filter_cons, List.map_cons]
    by_cases h : P p = true
    · rw [if_pos h, List.map_cons]
      show g p + sumL _ = (if P p = true then g p else 0) + sumL _
      rw [if_pos h, sZ_filter P g Z]
      rfl
    · rw [if_neg h]
      show _ = (if P p = true then g p else 0) + sumL _
      rw [if_neg h, Nat.zero_add, sZ_filter P g Z]
      rfl
theorem sZ_congr {Z : List (Nat × Nat)} {f g : Nat × Nat → Nat} (h : ∀ p ∈ Z, f p = g p) : sZ Z f = sZ Z g := sumL_congr h
theorem sZ_add (f g : Nat × Nat → Nat) (Z : List (Nat × Nat)) : sZ Z (fun p => f p + g p) = sZ Z f + sZ Z g := sumL_map_add f g Z
theorem sZ_mul (c : Nat) (f : Nat × Nat → Nat) : ∀ Z, sZ Z (fun p => c * f p) = c * sZ Z f
  | [] => by show 0 = c * 0; omega
  | p :: Z => by
    show c * f p + sZ Z _ = c * (f p + sZ Z f)
    rw [sZ_mul c f Z, Nat.mul_add]
theorem swap (g : Nat → Nat × Nat → Nat) (L : Nat) : ∀ Z, sR L (fun k => sZ Z (g k)) = sZ Z fun p => sR L fun k => g k p
  | [] => sR_zero fun _ _ => rfl
  | p :: Z => by
    show sR L (fun k => g k p + sZ Z (g k)) = (sR L fun k => g k p) + sZ Z _
    rw [sR_add, swap g L Z]
section
variable (h : Nat → Nat) (t : Nat) (Z : List (Nat × Nat))
def weq (k : Nat) : Nat := sZ Z fun p => if p.1 = k then p.2 else 0
def wge (k : Nat) : Nat := sZ Z fun p => if k ≤ p.1 then p.2 else 0
def mge (k c : Nat) : Nat := sZ Z fun p => if k ≤ p.1 then p.2 * (c + p.1) else 0
theorem wge_step (k : Nat) : wge Z k = wge Z (k + 1) + weq Z k := by
  unfold wge weq
  rw [← sZ_add]
  refine sZ_congr fun p _ => ?_
  by_cases h1 : p.1 = k
  · rw [if_pos (by omega), if_neg (by omega), if_pos h1]; omega
  · by_cases h2 : k ≤ p.1
    · rw [if_pos h2, if_pos (by omega), if_neg h1]; rfl
    · rw [if_neg h2, if_neg (by omega), if_neg h1]
theorem mge_step (k c : Nat) : mge Z k c = mge Z (k + 1) c + weq Z k * (c + k) := by
  unfold mge weq
  rw [Nat.mul_comm, ← sZ_mul, ← sZ_add]
  refine sZ_congr fun p _ => ?_
  by_cases h1 : p.1 = k
  · rw [if_pos (by omega), if_neg (by omega), if_pos h1, h1, Nat.zero_add, Nat.mul_comm]
  · by_cases h2 : k ≤ p.1
    · rw [if_pos h2, if_pos (by omega), if_neg h1]; omega
    · rw [if_neg h2, if_neg (by omega), if_neg h1]; omega
def TT (n : Nat) : Nat := sR n fun b => h b * t ^ (n - 1 - b) * wge Z (n - b)
def MM (n : Nat) : Nat := sR n fun b => h b * t ^ (n - 1 - b) * mge Z (n - b) b
def UU (n : Nat) : Nat := sR n fun b => h b * t ^ (n - 1 - b)
def SS0 (n : Nat) : Nat := sR n fun b => h b * t ^ (n - 1 - b) * weq Z (n - b)
theorem up (n : Nat) (f : Nat → Nat) : t * sR n (fun b => h b * t ^ (n - 1 - b) * f b) = sR n (fun b => h b * t ^ (n - b) * f b) := by
  rw [← sR_mul]
  refine sR_congr fun b hb => ?_
  rw [show n - b = (n - 1 - b) + 1 by omega, Nat.pow_succ]
  simp only [Nat.mul_assoc, Nat.mul_left_comm, Nat.mul_comm]
theorem TT_step (n : Nat) : TT h t Z (n + 1) + t * SS0 h t Z n = t * TT h t Z n + h n * wge Z 1 := by
  unfold TT SS0
  rw [up, up]
  show sR n (fun b => h b * t ^ (n - b) * wge Z (n + 1 - b)) + h n * t ^ (n - n) * wge Z (n + 1 - n) + _ = _
  rw [Nat.sub_self, Nat.pow_zero, Nat.mul_one, Nat.add_sub_cancel_left, Nat.add_right_comm, ← sR_add]
  congr 1
  refine sR_congr fun b hb => ?_
  rw [← Nat.mul_add, show n + 1 - b = (n - b) + 1 by omega, ← wge_step]
theorem MM_step (n : Nat) : MM h t Z (n + 1) + t * (n * SS0 h t Z n) = t * MM h t Z n + h n * mge Z 1 n := by
  have e : n * SS0 h t Z n = sR n fun b => h b * t ^ (n - 1 - b) * (weq Z (n - b) * n) := by
    unfold SS0
    rw [← sR_mul]
    refine sR_congr fun b hb => ?_
    simp only [Nat.mul_assoc, Nat.mul_left_comm, Nat.mul_comm]
  rw [e]
  unfold MM
  rw [up, up]
  show sR n (fun b => h b * t ^ (n - b) * mge Z (n + 1 - b) b) + h n * t ^ (n - n) * mge Z (n + 1 - n) n + _ = _
  rw [Nat.sub_self, Nat.pow_zero, Nat.mul_one, Nat.add_sub_cancel_left, Nat.add_right_comm, ← sR_add]
  congr 1
  refine sR_congr fun b hb => ?_
  have := mge_step Z (n - b) b
  rw [show b + (n - b) = n by omega] at this
  rw [← Nat.mul_add, show n + 1 - b = (n - b) + 1 by omega, ← this]
theorem UU_step (n : Nat) : UU h t (n + 1) = t * UU h t n + h n := by
  have := up h t n (fun _ => 1)
  simp only [Nat.mul_one] at this
  unfold UU
  rw [this]
  show sR n (fun b => h b * t ^ (n - b)) + h n * t ^ (n - n) = _
  rw [Nat.sub_self, Nat.pow_zero, Nat.mul_one]
end
section
variable {l ws : List Nat}
theorem sumW (hlen : ws.length = l.length) : sumL ws = sZ (l.zip ws) fun p => p.2 := by
  have e : (l.zip ws).map Prod.snd = ws := List.map_snd_zip (by omega)
  show sumL ws = sumL ((l.zip ws).map Prod.snd)
  rw [e]
/-- the hits by what stood before -/
theorem hits_S (hl : ∀ a ∈ l, 1 ≤ a) (n : Nat) : hits l ws (n + 1) = SS0 (hits l ws) (sumL ws) (l.zip ws) (n + 1) := by
  rw [hits_succ]
  unfold hstep SS0 weq
  rw [sZ_filter]
  have e : ∀ b, hits l ws b * sumL ws ^ (n + 1 - 1 - b) * sZ (l.zip ws) (fun p => if p.1 = n + 1 - b then p.2 else 0) = sZ (l.zip ws) fun p => hits l ws b * sumL ws ^ (n + 1 - 1 - b) * (if p.1 = n + 1 - b then p.2 else 0) := fun b => by rw [sZ_mul]
  rw [sR_congr fun b _ => e b, swap]
  refine sZ_congr fun p hp => ?_
  obtain ⟨m, w⟩ := p
  have hm := hl m (List.of_mem_zip hp).1
  show (if decide (m ≤ n + 1) = true then (hitsL l ws n).getD (n + 1 - m) 0 * w * sumL ws ^ (m - 1) else 0) = sR (n + 1) fun b => hits l ws b * sumL ws ^ (n + 1 - 1 - b) * (if m = n + 1 - b then w else 0)
  by_cases hmn : m ≤ n + 1
  · rw [if_pos (decide_eq_true hmn), hitsL_get l ws (by omega)]
    rw [sR_one (i := n + 1 - m) (by omega) fun b hb hne => by rw [if_neg (by omega), Nat.mul_zero]]
    rw [if_pos (by omega), show n + 1 - 1 - (n + 1 - m) = m - 1 by omega]
    simp only [Nat.mul_assoc, Nat.mul_left_comm, Nat.mul_comm]
  · rw [if_neg (by rw [decide_eq_false hmn]; exact Bool.false_ne_true)]
    exact (sR_zero fun b hb => by rw [if_neg (by omega), Nat.mul_zero]).symm
theorem wge_one (hl : ∀ a ∈ l, 1 ≤ a) (hlen : ws.length = l.length) : wge (l.zip ws) 1 = sumL ws := by
  rw [sumW hlen]
  exact sZ_congr fun p hp => if_pos (hl p.1 (List.of_mem_zip hp).1)
theorem mge_one (hl : ∀ a ∈ l, 1 ≤ a) (hlen : ws.length = l.length) (n : Nat) : mge (l.zip ws) 1 n = n * sumL ws + sZ (l.zip ws) fun p => p.1 * p.2 := by
  rw [sumW hlen, ← sZ_mul, ← sZ_add]
  refine sZ_congr fun p hp => ?_
  rw [if_pos (hl p.1 (List.of_mem_zip hp).1), Nat.mul_add, Nat.mul_comm p.2 n, Nat.mul_comm p.2 p.1]
/-- all that goes beyond -/
theorem TT_all (hl : ∀ a ∈ l, 1 ≤ a) (hlen : ws.length = l.length) : ∀ n, TT (hits l ws) (sumL ws) (l.zip ws) (n + 1) = sumL ws ^ (n + 1)
  | 0 => by
    have := TT_step (hits l ws) (sumL ws) (l.zip ws) 0
    rw [wge_one hl hlen] at this
    have e0 : SS0 (hits l ws) (sumL ws) (l.zip ws) 0 = 0 := rfl
    have e1 : TT (hits l ws) (sumL ws) (l.zip ws) 0 = 0 := rfl
    have e2 : hits l ws 0 = 1 := rfl
    rw [e0, e1, e2] at this
    simpa using this
  | n + 1 => by
    have := TT_step (hits l ws) (sumL ws) (l.zip ws) (n + 1)
    rw [wge_one hl hlen, ← hits_S hl, TT_all hl hlen n, Nat.mul_comm (sumL ws) (hits l ws (n + 1))] at this
    have := Nat.add_right_cancel this
    rw [this, Nat.pow_succ (n := sumL ws) (m := n + 1), Nat.mul_comm]
/-- Wald -/
theorem MM_all (hl : ∀ a ∈ l, 1 ≤ a) (hlen : ws.length = l.length) : ∀ n, MM (hits l ws) (sumL ws) (l.zip ws) n = UU (hits l ws) (sumL ws) n * sZ (l.zip ws) fun p => p.1 * p.2
  | 0 => by show 0 = 0 * _; omega
  | n + 1 => by
    have h1 := MM_step (hits l ws) (sumL ws) (l.zip ws) n
    rw [mge_one hl hlen, MM_all hl hlen n] at h1
    rw [UU_step]
    cases n with
    | zero =>
      have e0 : UU (hits l ws) (sumL ws) 0 = 0 := rfl
      rw [e0] at h1 ⊢
      simpa using h1
    | succ n =>
      rw [← hits_S hl] at h1
      generalize MM (hits l ws) (sumL ws) (l.zip ws) (n + 1 + 1) = a at h1 ⊢
      generalize UU (hits l ws) (sumL ws) (n + 1) = u at h1 ⊢
      generalize hits l ws (n + 1) = c at h1 ⊢
      generalize (sZ (l.zip ws) fun p => p.1 * p.2) = m at h1 ⊢
      generalize sumL ws = t at h1 ⊢
      rw [Nat.add_mul, Nat.mul_assoc]
      rw [Nat.mul_add c] at h1
      have e : t * ((n + 1) * c) = c * ((n + 1) * t) := by simp only [Nat.mul_assoc, Nat.mul_left_comm, Nat.mul_comm]
      rw [e] at h1
      omega
/-- the first hit beyond n at n + k -/
def fb (l ws : List Nat) (n k : Nat) : Nat := sZ (l.zip ws) fun p => if k < p.1 ∧ p.1 ≤ n + k then hits l ws (n + k - p.1) * p.2 * sumL ws ^ (n - 1 - (n + k - p.1)) else 0
theorem fb_sum {L : Nat} (hL : ∀ a ∈ l, a ≤ L) (n : Nat) : sR L (fb l ws n) = TT (hits l ws) (sumL ws) (l.zip ws) n := by
  unfold TT wge
  have e : ∀ b, hits l ws b * sumL ws ^ (n - 1 - b) * sZ (l.zip ws) (fun p => if n - b ≤ p.1 then p.2 else 0) = sZ (l.zip ws) fun p => hits l ws b * sumL ws ^ (n - 1 - b) * (if n - b ≤ p.1 then p.2 else 0) := fun b => by rw [sZ_mul]
  rw [sR_congr fun b _ => e b, swap]
  show sR L (fun k => sZ (l.zip ws) (fun p => if k < p.1 ∧ p.1 ≤ n + k then _ else 0)) = _
  rw [swap]
  refine sZ_congr fun p hp => ?_
  rw [sR_jump (fun b => hits l ws b * p.2 * sumL ws ^ (n - 1 - b)) (hL p.1 (List.of_mem_zip hp).1)]
  refine sR_congr fun b hb => ?_
  by_cases h : n ≤ p.1 + b
  · rw [if_pos h, if_pos (by omega)]
    simp only [Nat.mul_assoc, Nat.mul_left_comm, Nat.mul_comm]
  · rw [if_neg h, if_neg (by omega), Nat.mul_zero]
theorem fb_mean {L : Nat} (hL : ∀ a ∈ l, a ≤ L) (n : Nat) : sR L (fun k => fb l ws n k * (n + k)) = MM (hits l ws) (sumL ws) (l.zip ws) n := by
  unfold MM mge
  have e : ∀ b, hits l ws b * sumL ws ^ (n - 1 - b) * sZ (l.zip ws) (fun p => if n - b ≤ p.1 then p.2 * (b + p.1) else 0) = sZ (l.zip ws) fun p => hits l ws b * sumL ws ^ (n - 1 - b) * (if n - b ≤ p.1 then p.2 * (b + p.1) else 0) := fun b => by rw [sZ_mul]
  rw [sR_congr fun b _ => e b, swap]
  have e2 : ∀ k, fb l ws n k * (n + k) = sZ (l.zip ws) fun p => if k < p.1 ∧ p.1 ≤ n + k then (fun b => hits l ws b * p.2 * sumL ws ^ (n - 1 - b) * (b + p.1)) (n + k - p.1) else 0 := fun k => by
    unfold fb
    rw [Nat.mul_comm, ← sZ_mul]
    refine sZ_congr fun p _ => ?_
    by_cases h : k < p.1 ∧ p.1 ≤ n + k
    · rw [if_pos h, if_pos h, Nat.mul_comm]
      show _ = hits l ws (n + k - p.1) * p.2 * sumL ws ^ (n - 1 - (n + k - p.1)) * (n + k - p.1 + p.1)
      rw [Nat.sub_add_cancel h.2]
    · rw [if_neg h, if_neg h, Nat.mul_zero]
  rw [sR_congr fun k _ => e2 k, swap]
  refine sZ_congr fun p hp => ?_
  rw [sR_jump (fun b => hits l ws b * p.2 * sumL ws ^ (n - 1 - b) * (b + p.1)) (hL p.1 (List.of_mem_zip hp).1)]
  refine sR_congr fun b hb => ?_
  by_cases h : n ≤ p.1 + b
  · rw [if_pos h, if_pos (by omega)]
    simp only [Nat.mul_assoc, Nat.mul_left_comm, Nat.mul_comm]
  · rw [if_neg h, if_neg (by omega), Nat.mul_zero]
end
end MS

namespace G
open PySem L2 RT PySem.Spec PyProof.Rows MS
/-! ### fractions in lowest terms -/
abbrev FR (p q : Nat) : PyData := .tuple [.int (p : Nat), .int (q : Nat)]
def redN (a b : Nat) : PyData := FR (a / Nat.gcd a b) (b / Nat.gcd a b)
theorem red_eq {a b c d : Nat} (hb : 0 < b) (hd : 0 < d) (h : a * d = c * b) : redN a b = redN c d := by
  have g1 : 0 < Nat.gcd a b := Nat.gcd_pos_of_pos_right _ hb
  have g2 : 0 < Nat.gcd c d := Nat.gcd_pos_of_pos_right _ hd
  have c1 := Nat.coprime_div_gcd_div_gcd g1
  have c2 := Nat.coprime_div_gcd_div_gcd g2
  have e1 : a = Nat.gcd a b * (a / Nat.gcd a b) := (Nat.mul_div_cancel' (Nat.gcd_dvd_left a b)).symm
  have e2 : b = Nat.gcd a b * (b / Nat.gcd a b) := (Nat.mul_div_cancel' (Nat.gcd_dvd_right a b)).symm
  have e3 : c = Nat.gcd c d * (c / Nat.gcd c d) := (Nat.mul_div_cancel' (Nat.gcd_dvd_left c d)).symm
  have e4 : d = Nat.gcd c d * (d / Nat.gcd c d) := (Nat.mul_div_cancel' (Nat.gcd_dvd_right c d)).symm
  unfold redN
  generalize a / Nat.gcd a b = x at *
  generalize b / Nat.gcd a b = y at *
  generalize c / Nat.gcd c d = u at *
  generalize d / Nat.gcd c d = v at *
  generalize Nat.gcd a b = g at *
  generalize Nat.gcd c d = k at *
  subst e1 e2 e3 e4
  have key : x * v = u * y := by
    have : (g * k) * (x * v) = (g * k) * (u * y) := by
      have a1 : g * x * (k * v) = (g * k) * (x * v) := by simp only [Nat.mul_assoc, Nat.mul_left_comm, Nat.mul_comm]
      have a2 : k * u * (g * y) = (g * k) * (u * y) := by simp only [Nat.mul_assoc, Nat.mul_left_comm, Nat.mul_comm]
      rw [← a1, ← a2, h]
    exact Nat.eq_of_mul_eq_mul_left (Nat.mul_pos g1 g2) this
  have hy : 0 < y := Nat.pos_of_ne_zero fun e => by rw [e, Nat.mul_zero] at hb; omega
  have d1 : y ∣ v := c1.symm.dvd_of_dvd_mul_left (by rw [key]; exact Nat.dvd_mul_left y u)
  have d2 : v ∣ y := c2.symm.dvd_of_dvd_mul_left (by rw [← key]; exact Nat.dvd_mul_left v x)
  have ey : y = v := Nat.dvd_antisymm d1 d2
  subst ey
  rw [Nat.eq_of_mul_eq_mul_right hy key]
theorem red_fr (a b : Nat) : redN a b = FR (a / Nat.gcd a b) (b / Nat.gcd a b) := rfl
theorem red_x {a b : Nat} (hb : 0 < b) : (a / Nat.gcd a b) * b = a * (b / Nat.gcd a b) ∧ 0 < b / Nat.gcd a b ∧ b / Nat.gcd a b ≤ b ∧ a / Nat.gcd a b ≤ a := by
  have g1 : 0 < Nat.gcd a b := Nat.gcd_pos_of_pos_right _ hb
  have e1 : a = Nat.gcd a b * (a / Nat.gcd a b) := (Nat.mul_div_cancel' (Nat.gcd_dvd_left a b)).symm
  have e2 : b = Nat.gcd a b * (b / Nat.gcd a b) := (Nat.mul_div_cancel' (Nat.gcd_dvd_right a b)).symm
  refine ⟨?_, Nat.div_pos (Nat.gcd_le_right _ hb) g1, Nat.div_le_self _ _, Nat.div_le_self _ _⟩
  generalize a / Nat.gcd a b = x at *
  generalize b / Nat.gcd a b = y at *
  generalize Nat.gcd a b = g at *
  subst e1 e2
  simp only [Nat.mul_assoc, Nat.mul_left_comm, Nat.mul_comm]
theorem red_mul {a b c d : Nat} (hb : 0 < b) (hd : 0 < d) : redN ((a / Nat.gcd a b) * (c / Nat.gcd c d)) ((b / Nat.gcd a b) * (d / Nat.gcd c d)) = redN (a * c) (b * d) := by
  obtain ⟨h1, h2, _⟩ := red_x (a := a) hb
  obtain ⟨h3, h4, _⟩ := red_x (a := c) hd
  refine red_eq (Nat.mul_pos h2 h4) (Nat.mul_pos hb hd) ?_
  generalize a / Nat.gcd a b = x at *
  generalize b / Nat.gcd a b = y at *
  generalize c / Nat.gcd c d = u at *
  generalize d / Nat.gcd c d = v at *
  have : x * u * (b * d) = (x * b) * (u * d) := by simp only [Nat.mul_assoc, Nat.mul_left_comm, Nat.mul_comm]
  rw [this, h1, h3]
  simp only [Nat.mul_assoc, Nat.mul_left_comm, Nat.mul_comm]
theorem red_add {a b c d : Nat} (hb : 0 < b) (hd : 0 < d) : redN ((a / Nat.gcd a b) * (d / Nat.gcd c d) + (c / Nat.gcd c d) * (b / Nat.gcd a b)) ((b / Nat.gcd a b) * (d / Nat.gcd c d)) = redN (a * d + c * b) (b * d) := by
  obtain ⟨h1, h2, _⟩ := red_x (a := a) hb
  obtain ⟨h3, h4, _⟩ := red_x (a := c) hd
  refine red_eq (Nat.mul_pos h2 h4) (Nat.mul_pos hb hd) ?_
  generalize a / Nat.gcd a b = x at *
  generalize b / Nat.gcd a b = y at *
  generalize c / Nat.gcd c d = u at *
  generalize d / Nat.gcd c d = v at *
  have e1 : (x * v + u * y) * (b * d) = (x * b) * (v * d) + (u * d) * (y * b) := by
    rw [Nat.add_mul]
    simp only [Nat.mul_assoc, Nat.mul_left_comm, Nat.mul_comm]
  have e2 : (a * d + c * b) * (y * v) = (a * y) * (v * d) + (c * v) * (y * b) := by
    rw [Nat.add_mul]
    simp only [Nat.mul_assoc, Nat.mul_left_comm, Nat.mul_comm]
  rw [e1, e2, h1, h3]
/-- equal denominators up to a factor -/
theorem red_add_to {a c D k X : Nat} (hD : 0 < D) (hk : 0 < k) (hX : X * k = a * k + c) : redN (a * (D * k) + c * (D * k)) (D * k * (D * k)) = redN (a + c) (D * k) := by
  refine red_eq (Nat.mul_pos (Nat.mul_pos hD hk) (Nat.mul_pos hD hk)) (Nat.mul_pos hD hk) ?_
  rw [← Nat.add_mul, Nat.mul_assoc]
def c_lfrac : Ct := ⟨2, fun xs => ∃ a b : Nat, xs = [dI a, dI b] ∧ 0 < b ∧ b < 2 ^ 499, fun xs y F => F = [] ∧ ∃ d, y = .d d ∧ ∀ a b : Nat, xs = [dI a, dI b] → d = redN a b⟩
def c_lmul : Ct := ⟨2, fun xs => ∃ p q r s : Nat, xs = [.d (FR p q), .d (FR r s)] ∧ 0 < q ∧ 0 < s ∧ q * s < 2 ^ 499 ∧ r < 2 ^ 63 ∧ s < 2 ^ 63, fun xs y F => F = [] ∧ ∃ d, y = .d d ∧ ∀ p q r s : Nat, xs = [.d (FR p q), .d (FR r s)] → d = redN (p * r) (q * s)⟩
def c_ladd : Ct := ⟨2, fun xs => ∃ p q r s : Nat, xs = [.d (FR p q), .d (FR r s)] ∧ 0 < q ∧ 0 < s ∧ q < 2 ^ 400 ∧ s < 2 ^ 400 ∧ q * s < 2 ^ 499 ∧ p < 2 ^ 400 ∧ r < 2 ^ 400, fun xs y F => F = [] ∧ ∃ d, y = .d d ∧ ∀ p q r s : Nat, xs = [.d (FR p q), .d (FR r s)] → d = redN (p * s + r * q) (q * s)⟩
theorem frI {p q r s p' q' r' s' : Nat} (h : [SV.d (FR p q), .d (FR r s)] = [.d (FR p' q'), .d (FR r' s')]) : p = p' ∧ q = q' ∧ r = r' ∧ s = s' := by
  simp only [List.cons.injEq, SV.d.injEq, PyData.tuple.injEq, PyData.int.injEq, and_true] at h
  omega
theorem nat_lt {x a : Nat} (h : x < 2 ^ a) : ((x : Nat) : Int).natAbs < 2 ^ a := by rw [Int.natAbs_natCast]; exact h
section
variable {K : PySem.W.Frag} {T : List Tb} {C : CC K T} {S : SS} {F : FP} {P : SV → FP → Prop} {E : SE} {t : TS}
/-- an owned list in a slot is frozen -/
theorem st_frz {i : Nat} {p : Addr} {ds : List PyData} {F2 : FP} (hS : S[i]? = some (some (.m p))) (h : ST C t (S.set i (some (.d (.list ds)))) F2 E) : ST C t S ((p, .lst (ds.map .d)) :: F2) E := fun σ H rs as D cv => by
  obtain ⟨v, ev, rv⟩ := rs.get hS
  obtain ⟨e2, a2, r2⟩ := as.frz' (x := .m p) (.m List.mem_cons_self) rv
  have ne : ∀ q ∈ F2, q.1 ≠ p := fun q hq e => (List.nodup_cons.mp as.nd).1 (by rw [← e]; exact List.mem_map.mpr ⟨q, hq, rfl⟩)
  have ef : ((p, MO.lst (ds.map .d)) :: F2).filter (fun q => decide (q.1 ≠ p)) = F2 := by
    rw [List.filter_cons, if_neg (by simp)]
    exact List.filter_eq_self.mpr fun q hq => decide_eq_true (ne q hq)
  rw [ef] at e2 a2 r2
  have rs2 := RS.set r2 i (rs.sub e2)
  have es : σ.set i (some v) = σ := by
    obtain ⟨hi, hv⟩ := List.getElem?_eq_some_iff.mp ev
    rw [← hv, List.set_getElem_self]
  rw [es] at rs2
  exact h σ H rs2 a2 D (cv.ev e2)
end
theorem fracN {d : PyData} {a b : Nat} (h : FracOf d (a : Nat) (b : Nat)) : d = redN a b := by
  obtain ⟨p, q, rfl, _, _, _, _, _, hp, hq⟩ := h
  have e : Int.gcd ((a : Nat) : Int) ((b : Nat) : Int) = Nat.gcd a b := rfl
  rw [e] at hp hq
  rw [hp, hq]
  unfold redN FR
  rw [Int.natCast_ediv, Int.natCast_ediv]
end G

namespace MS
theorem lst_mem {l : List Nat} (h : l ≠ []) : lst l ∈ l := by
  have e : lst l = l.getLast h := by
    unfold lst
    rw [List.getLastD_eq_getLast?, List.getLast?_eq_some_getLast h]
    rfl
  rw [e]
  exact List.getLast_mem h
/-! ### sums over members and weights, by parts -/
def zp (l ws : List Nat) (g : Nat × Nat → Nat) (j : Nat) : Nat := sumL (((l.zip ws).take j).map g)
theorem zp_succ {l ws : List Nat} {g : Nat × Nat → Nat} {j : Nat} {p : Nat × Nat} (h : (l.zip ws)[j]? = some p) : zp l ws g (j + 1) = zp l ws g j + g p := by
  unfold zp
  rw [List.take_add_one, h, List.map_append, sumL_app]
  rfl
theorem zp_end {l ws : List Nat} {g : Nat × Nat → Nat} {j : Nat} (h : (l.zip ws).length ≤ j) : zp l ws g j = sZ (l.zip ws) g := by
  unfold zp sZ
  rw [List.take_of_length_le h]
theorem zp_le {l ws : List Nat} {g : Nat × Nat → Nat} {j : Nat} : zp l ws g j ≤ sZ (l.zip ws) g := by
  unfold zp sZ
  generalize l.zip ws = Z
  induction Z generalizing j with
  | nil => simp
  | cons a Z ih =>
    cases j with
    | zero => exact Nat.zero_le _
    | succ j =>
      rw [List.take_succ_cons, List.map_cons, List.map_cons]
      exact Nat.add_le_add_left ih _
/-- what stands at a number in the row -/
def hg (l ws : List Nat) (m : Nat) (p : Nat × Nat) : Nat := if p.1 ≤ m then hits l ws (m - p.1) * p.2 * sumL ws ^ (p.1 - 1) else 0
theorem hg_sum {l ws : List Nat} (hl : ∀ a ∈ l, 1 ≤ a) (n : Nat) : sZ (l.zip ws) (hg l ws (n + 1)) = hits l ws (n + 1) := by
  rw [hits_succ]
  unfold hstep
  rw [sZ_filter]
  refine sZ_congr fun p hp => ?_
  obtain ⟨m, w⟩ := p
  have hm := hl m (List.of_mem_zip hp).1
  unfold hg
  by_cases h : m ≤ n + 1
  · rw [if_pos h, if_pos (decide_eq_true h), hitsL_get l ws (by omega)]
  · rw [if_neg h, if_neg (by rw [decide_eq_false h]; exact Bool.false_ne_true)]
theorem sZ_le {Z : List (Nat × Nat)} {f g : Nat × Nat → Nat} (h : ∀ p ∈ Z, f p ≤ g p) : sZ Z f ≤ sZ Z g := by
  unfold sZ
  induction Z with
  | nil => exact Nat.le_refl _
  | cons a Z ih => exact Nat.add_le_add (h a List.mem_cons_self) (ih fun p hp => h p (List.mem_cons_of_mem _ hp))
theorem hits_le {l ws : List Nat} (hl : ∀ a ∈ l, 1 ≤ a) (hlen : ws.length = l.length) (n : Nat) : hits l ws n ≤ sumL ws ^ n := by
  induction n using Nat.strongRecOn with
  | _ n ih =>
    cases n with
    | zero => exact Nat.le_refl 1
    | succ n =>
      rw [← hg_sum hl, Nat.pow_succ]
      have e := sumW hlen
      refine Nat.le_trans (sZ_le (g := fun p => sumL ws ^ n * p.2) fun p hp => ?_) (Nat.le_of_eq (by rw [sZ_mul, ← e]))
      have hm := hl p.1 (List.of_mem_zip hp).1
      unfold hg
      split
      · rename_i h
        have h2 := ih (n + 1 - p.1) (by omega)
        refine Nat.le_trans (Nat.mul_le_mul_right _ (Nat.mul_le_mul_right _ h2)) (Nat.le_of_eq ?_)
        have e : sumL ws ^ n = sumL ws ^ (n + 1 - p.1) * sumL ws ^ (p.1 - 1) := by
          rw [← Nat.pow_add]
          congr 1
          omega
        rw [e]
        simp only [Nat.mul_assoc, Nat.mul_left_comm, Nat.mul_comm]
      · exact Nat.zero_le _
/-- what is beyond -/
def fg (l ws : List Nat) (n k : Nat) (p : Nat × Nat) : Nat := if k < p.1 ∧ p.1 ≤ n + k then hits l ws (n + k - p.1) * p.2 * sumL ws ^ (n - 1 - (n + k - p.1)) else 0
theorem fg_sum (l ws : List Nat) (n k : Nat) : sZ (l.zip ws) (fg l ws n k) = fb l ws n k := rfl
def fb' (l ws : List Nat) (n k : Nat) : Nat := if n = 0 ∧ k = 0 then 1 else fb l ws n k
theorem fb_zero (l ws : List Nat) (k : Nat) : fb l ws 0 k = 0 := by
  unfold fb
  have : sZ (l.zip ws) (fun _ => 0) = 0 := by
    unfold sZ
    generalize l.zip ws = Z
    induction Z with
    | nil => rfl
    | cons a Z ih =>
      show 0 + sumL (Z.map fun _ => 0) = 0
      rw [ih]
  refine Eq.trans (sZ_congr fun p _ => ?_) this
  rw [if_neg]
  omega
theorem sR_le {f : Nat → Nat} {n i : Nat} (hi : i < n) : f i ≤ sR n f := by
  induction n with
  | zero => omega
  | succ n ih =>
    show f i ≤ sR n f + f n
    by_cases e : i = n
    · subst e; omega
    · have := ih (by omega)
      omega
theorem sR_mono {f : Nat → Nat} : ∀ {n m : Nat}, n ≤ m → sR n f ≤ sR m f
  | n, 0, h => by cases Nat.le_zero.mp h; exact Nat.le_refl _
  | n, m + 1, h => by
    by_cases e : n = m + 1
    · subst e; exact Nat.le_refl _
    · exact Nat.le_trans (sR_mono (m := m) (by omega)) (Nat.le_add_right _ _)
theorem sR_le2 {f g : Nat → Nat} : ∀ {n : Nat}, (∀ i, i < n → f i ≤ g i) → sR n f ≤ sR n g
  | 0, _ => Nat.le_refl _
  | n + 1, h => Nat.add_le_add (sR_le2 fun i hi => h i (by omega)) (h n (by omega))
theorem fb'_sum {l ws : List Nat} {L : Nat} (hl : ∀ a ∈ l, 1 ≤ a) (hlen : ws.length = l.length) (hL : ∀ a ∈ l, a ≤ L) (h0 : 0 < L) (n : Nat) : sR L (fb' l ws n) = sumL ws ^ n := by
  cases n with
  | zero =>
    rw [sR_one (i := 0) h0 fun b hb hne => by unfold fb'; rw [if_neg (by omega), fb_zero]]
    rfl
  | succ n =>
    rw [← TT_all hl hlen, ← fb_sum hL]
    exact sR_congr fun i _ => if_neg (by omega)
theorem fb'_mean {l ws : List Nat} {L : Nat} (hl : ∀ a ∈ l, 1 ≤ a) (hlen : ws.length = l.length) (hL : ∀ a ∈ l, a ≤ L) (n : Nat) : sR L (fun k => fb' l ws n k * (n + k)) = UU (hits l ws) (sumL ws) n * sZ (l.zip ws) fun p => p.1 * p.2 := by
  rw [← MM_all hl hlen, ← fb_mean hL]
  refine sR_congr fun k _ => ?_
  unfold fb'
  split
  · rename_i h
    obtain ⟨rfl, rfl⟩ := h
    rw [fb_zero]
  · rfl
theorem fb'_le {l ws : List Nat} {L : Nat} (hl : ∀ a ∈ l, 1 ≤ a) (hlen : ws.length = l.length) (hL : ∀ a ∈ l, a ≤ L) {n k : Nat} (hk : k < L) : fb' l ws n k ≤ sumL ws ^ n := by
  rw [← fb'_sum hl hlen hL (by omega) n]
  exact sR_le hk
/-- the mean steps, over t ^ n -/
def ms (l ws : List Nat) (n i : Nat) : Nat := sR i fun k => hits l ws k * sumL ws ^ (n - k)
theorem ms_UU (l ws : List Nat) (n : Nat) : ms l ws n n = sumL ws * UU (hits l ws) (sumL ws) n := by
  unfold ms UU
  rw [← sR_mul]
  refine sR_congr fun i hi => ?_
  rw [show n - i = (n - 1 - i) + 1 by omega, Nat.pow_succ]
  simp only [Nat.mul_assoc, Nat.mul_left_comm, Nat.mul_comm]
theorem sR_const (c : Nat) : ∀ n, sR n (fun _ => c) = n * c
  | 0 => by show 0 = 0 * c; omega
  | n + 1 => by
    show sR n _ + c = (n + 1) * c
    rw [sR_const c n, Nat.succ_mul]
theorem ms_le {l ws : List Nat} (hl : ∀ a ∈ l, 1 ≤ a) (hlen : ws.length = l.length) {n i : Nat} (h : i ≤ n) : ms l ws n i ≤ n * sumL ws ^ n := by
  rw [← sR_const]
  refine Nat.le_trans (sR_mono h) (sR_le2 fun k hk => ?_)
  refine Nat.le_trans (Nat.mul_le_mul_right _ (hits_le hl hlen k)) (Nat.le_of_eq ?_)
  rw [← Nat.pow_add]
  congr 1
  omega
end MS
namespace G
open PySem L2 RT PySem.Spec PyProof.Rows MS
theorem sumR (f : Nat → Nat) : ∀ n, ((List.range n).map fun m => ((f m : Nat) : Int)).sum = ((sR n f : Nat) : Int)
  | 0 => rfl
  | n + 1 => by
    rw [List.range_succ, List.map_append, List.sum_append, sumR f n]
    show _ + (((f n : Nat) : Int) + 0) = ((sR n f + f n : Nat) : Int)
    omega
theorem red_zero {D : Nat} (h : 0 < D) : redN 0 D = FR 0 1 := by
  unfold redN
  rw [Nat.gcd_zero_left, Nat.zero_div, Nat.div_self h]
theorem red_one {D : Nat} (h : 0 < D) : redN D D = FR 1 1 := by
  unfold redN
  rw [Nat.gcd_self, Nat.div_self h]
/-- a fraction with bounded parts -/
structure Bd (A D : Nat) : Prop where
  a : A < 2 ^ 199
  d : D < 2 ^ 199
  z : 0 < D
theorem Bd.red {A D : Nat} (h : Bd A D) : A / Nat.gcd A D < 2 ^ 199 ∧ D / Nat.gcd A D < 2 ^ 199 ∧ 0 < D / Nat.gcd A D :=
  have r := red_x (a := A) h.z
  ⟨Nat.lt_of_le_of_lt r.2.2.2 h.a, Nat.lt_of_le_of_lt r.2.2.1 h.d, r.2.1⟩
theorem p2 {a b : Nat} (h : a ≤ b) : (2 : Nat) ^ a ≤ 2 ^ b := Nat.pow_le_pow_right (by decide) h
theorem mul_lt2 {x y a b c : Nat} (hx : x < 2 ^ a) (hy : y < 2 ^ b) (h : a + b ≤ c) : x * y < 2 ^ c :=
  Nat.lt_of_lt_of_le (Nat.mul_lt_mul'' hx hy) (by rw [← Nat.pow_add]; exact p2 h)
section
variable {K : PySem.W.Frag} {T : List Tb} {C : CC K T} {S : SS} {F : FP} {P : SV → FP → Prop} {E : SE} {t : TS}
theorem cl_ladd {A D B D' A' : Nat} (h1 : Bd A D) (h2 : Bd B D') (h : A' * D' = B * D) (k : P (.d (redN (A + A') D)) F) : CL C (c_ladd.sp K T) [.d (redN A D), .d (redN B D')] F P := by
  obtain ⟨a1, a2, a3⟩ := h1.red
  obtain ⟨b1, b2, b3⟩ := h2.red
  refine cl_ct rfl ⟨_, _, _, _, rfl, a3, b3, Nat.lt_of_lt_of_le a2 (p2 (by decide)), Nat.lt_of_lt_of_le b2 (p2 (by decide)), mul_lt2 a2 b2 (by decide), Nat.lt_of_lt_of_le a1 (p2 (by decide)), Nat.lt_of_lt_of_le b1 (p2 (by decide))⟩ ?_
  rintro y F' ⟨rfl, d, rfl, hd⟩ _
  cases hd _ _ _ _ rfl
  rw [red_add h1.z h2.z, red_eq (Nat.mul_pos h1.z h2.z) h1.z (show (A * D' + B * D) * D = (A + A') * (D * D') from ?_)]
  · exact k
  · rw [← h, ← Nat.add_mul, Nat.mul_assoc, Nat.mul_comm D' D]
theorem cl_lmul {A D r s : Nat} (h1 : Bd A D) (hs : 0 < s) (hr : r < 2 ^ 63) (hs2 : s < 2 ^ 63) (k : P (.d (redN (A * r) (D * s))) F) : CL C (c_lmul.sp K T) [.d (redN A D), .d (FR r s)] F P := by
  obtain ⟨a1, a2, a3⟩ := h1.red
  refine cl_ct rfl ⟨_, _, _, _, rfl, a3, hs, mul_lt2 a2 hs2 (by decide), hr, hs2⟩ ?_
  rintro y F' ⟨rfl, d, rfl, hd⟩ _
  cases hd _ _ _ _ rfl
  have x := red_x (a := A) h1.z
  rw [red_eq (Nat.mul_pos a3 hs) (Nat.mul_pos h1.z hs) (show A / Nat.gcd A D * r * (D * s) = A * r * (D / Nat.gcd A D * s) from ?_)]
  · exact k
  · have e : A / Nat.gcd A D * r * (D * s) = (A / Nat.gcd A D * D) * (r * s) := by simp only [Nat.mul_assoc, Nat.mul_left_comm, Nat.mul_comm]
    rw [e, x.1]
    simp only [Nat.mul_assoc, Nat.mul_left_comm, Nat.mul_comm]
theorem cl_lmulR {A D r s : Nat} (h1 : Bd A D) (hs : 0 < s) (hr : r < 2 ^ 63) (hs2 : s < 2 ^ 63) (k : P (.d (redN (A * r) (D * s))) F) : CL C (c_lmul.sp K T) [.d (redN A D), .d (redN r s)] F P := by
  have x := red_x (a := r) hs
  refine cl_lmul h1 x.2.1 (Nat.lt_of_le_of_lt x.2.2.2 hr) (Nat.lt_of_le_of_lt x.2.2.1 hs2) ?_
  rw [red_eq (Nat.mul_pos h1.z x.2.1) (Nat.mul_pos h1.z hs) (show A * (r / Nat.gcd r s) * (D * s) = A * r * (D * (s / Nat.gcd r s)) from ?_)]
  · exact k
  · have e : A * (r / Nat.gcd r s) * (D * s) = (A * D) * (r / Nat.gcd r s * s) := by simp only [Nat.mul_assoc, Nat.mul_left_comm, Nat.mul_comm]
    rw [e, x.1]
    simp only [Nat.mul_assoc, Nat.mul_left_comm, Nat.mul_comm]
end
def dueL (l ws : List Nat) (n L : Nat) : List PyData := (List.range L).map fun k => redN (fb' l ws n k) (sumL ws ^ n)
def c_fby : Ct := ⟨3, fun xs => ∃ (l ws : List Nat) (n : Nat), xs = [tN l, tN ws, dI n] ∧ WB l ws ∧ n ≤ 1000 ∧ 0 < sumL ws ∧ sumL ws ^ n < 2 ^ 199 ∧ l ≠ [], fun xs y F => F = [] ∧ ∃ d, y = .d d ∧ ∀ (l ws : List Nat) (n : Nat), xs = [tN l, tN ws, dI n] → d = .list (dueL l ws n (MS.lst l))⟩
def c_mst : Ct := ⟨3, fun xs => ∃ (l ws : List Nat) (n : Nat), xs = [tN l, tN ws, dI n] ∧ WB l ws ∧ n ≤ 1000 ∧ 0 < sumL ws ∧ sumL ws ^ n < 2 ^ 199, fun xs y F => F = [] ∧ ∃ d, y = .d d ∧ ∀ (l ws : List Nat) (n : Nat), xs = [tN l, tN ws, dI n] → d = redN (ms l ws n n) (sumL ws ^ n)⟩
def hrow (l ws : List Nat) (m : Nat) : List PyData := (List.range (m + 1)).map fun i => redN (hits l ws i) (sumL ws ^ i)
theorem hrow_len (l ws : List Nat) (m : Nat) : (hrow l ws m).length = m + 1 := by unfold hrow; simp
theorem hrow_get {l ws : List Nat} {m i : Nat} (h : i ≤ m) : (hrow l ws m)[i]? = some (redN (hits l ws i) (sumL ws ^ i)) := by
  unfold hrow
  rw [List.getElem?_map, List.getElem?_range (by omega)]
  rfl
theorem hrow_succ (l ws : List Nat) (m : Nat) : hrow l ws (m + 1) = hrow l ws m ++ [redN (hits l ws (m + 1)) (sumL ws ^ (m + 1))] := by
  unfold hrow
  rw [List.range_succ, List.map_append]
  rfl
theorem dueL_len (l ws : List Nat) (n L : Nat) : (dueL l ws n L).length = L := by unfold dueL; simp
theorem dueL_get {l ws : List Nat} {n L i : Nat} (h : i < L) : (dueL l ws n L)[i]? = some (redN (fb' l ws n i) (sumL ws ^ n)) := by
  unfold dueL
  rw [List.getElem?_map, List.getElem?_range h]
  rfl
theorem dueL_succ (l ws : List Nat) (n m : Nat) : dueL l ws n (m + 1) = dueL l ws n m ++ [redN (fb' l ws n m) (sumL ws ^ n)] := by
  unfold dueL
  rw [List.range_succ, List.map_append]
  rfl
theorem hrow0 (l ws : List Nat) : hrow l ws 0 = [FR 1 1] := by
  show [redN 1 (sumL ws ^ 0)] = _
  rw [Nat.pow_zero, red_one (by decide)]
theorem fb'_ini (l ws : List Nat) (n k : Nat) : (if n = 0 ∧ k = 0 then 1 else 0) + sZ (l.zip ws) (fg l ws n k) = fb' l ws n k := by
  rw [fg_sum]
  unfold fb'
  by_cases h : n = 0 ∧ k = 0
  · rw [if_pos h, if_pos h, h.1, fb_zero]
  · rw [if_neg h, if_neg h, Nat.zero_add]
structure W5 (l ws : List Nat) : Prop where
  wb : WB l ws
  t1 : 1 ≤ sumL ws
  t2 : sumL ws ≤ 36
theorem sumL_le {c : Nat} : ∀ {ws : List Nat}, (∀ w ∈ ws, w ≤ c) → sumL ws ≤ ws.length * c
  | [], _ => Nat.zero_le _
  | a :: ws, h => by
    show a + sumL ws ≤ (ws.length + 1) * c
    rw [Nat.succ_mul]
    have h1 := h a List.mem_cons_self
    have h2 := sumL_le fun w hw => h w (List.mem_cons_of_mem _ hw)
    omega
theorem sumL_ge : ∀ {ws : List Nat}, (∀ w ∈ ws, 1 ≤ w) → ws.length ≤ sumL ws
  | [], _ => Nat.zero_le _
  | a :: ws, h => by
    show ws.length + 1 ≤ a + sumL ws
    have h1 := h a List.mem_cons_self
    have h2 := sumL_ge fun w hw => h w (List.mem_cons_of_mem _ hw)
    omega
theorem w5_of {l ws : List Nat} (h : BaseS l 5) (hlen : ws.length = l.length) (hw : ∀ w ∈ ws, 1 ≤ w ∧ w ≤ 6) : W5 l ws := by
  have hl := h.len
  have hne : 0 < l.length := List.length_pos_iff.mpr h.b.ne
  have h1 := sumL_le fun w hw' => (hw w hw').2
  have h2 := sumL_ge fun w hw' => (hw w hw').1
  refine ⟨⟨hlen, by omega, fun a ha => ⟨h.b.pos a ha, by have := h.le a ha; omega⟩, fun a ha => ?_, fun w hw' => ?_, by omega⟩, by omega, by omega⟩
  · have := h.le2 a ha
    exact Nat.lt_of_le_of_lt (Nat.le_trans (Nat.pow_le_pow_left (show sumL ws ≤ 36 by omega) _) (Nat.pow_le_pow_right (by decide) (show a - 1 ≤ 9 by omega))) (by decide)
  · have := (hw w hw').2
    omega
theorem W5.pw {l ws : List Nat} (h : W5 l ws) {m c : Nat} (hm : m ≤ 30) (hc : c ≤ 10000) : c * sumL ws ^ m < 2 ^ 199 := by
  have h2 : sumL ws ^ m ≤ 36 ^ 30 := Nat.le_trans (Nat.pow_le_pow_left h.t2 m) (Nat.pow_le_pow_right (by decide) hm)
  exact Nat.lt_of_le_of_lt (Nat.mul_le_mul hc h2) (by decide +kernel)
theorem W5.pz {l ws : List Nat} (h : W5 l ws) (m : Nat) : 0 < sumL ws ^ m := Nat.pow_pos h.t1
theorem W5.bd {l ws : List Nat} (h : W5 l ws) {m k c A : Nat} (hm : m ≤ 30) (hc : c ≤ 10000) (hk : k ≤ 30) (hA : A ≤ c * sumL ws ^ k) : Bd A (sumL ws ^ m) :=
  ⟨Nat.lt_of_le_of_lt hA (h.pw hk hc), by have := h.pw hm (show 1 ≤ 10000 by decide); omega, h.pz m⟩
theorem W5.bd' {l ws : List Nat} (h : W5 l ws) {m k c A t : Nat} (hm : m + 1 ≤ 30) (hc : c ≤ 10000) (hk : k ≤ 30) (hA : A ≤ c * sumL ws ^ k) (ht : t = sumL ws) : Bd A (sumL ws ^ m * t) := by
  subst ht
  rw [← Nat.pow_succ]
  exact h.bd hm hc hk hA
theorem range_zip {l ws : List Nat} (hlen : ws.length = l.length) : (List.range l.length).map (fun k => l.getD k 0 * ws.getD k 0) = (l.zip ws).map fun p => p.1 * p.2 := by
  refine List.ext_getElem (by simp; omega) fun i h1 h2 => ?_
  simp only [List.length_map, List.length_range] at h1
  simp only [List.getElem_map, List.getElem_range, List.getElem_zip, List.getD_eq_getElem?_getD]
  rw [List.getElem?_eq_getElem h1, List.getElem?_eq_getElem (show i < ws.length by omega)]
  rfl
theorem zip_get {l ws : List Nat} (hlen : ws.length = l.length) {k : Nat} (hk : k < l.length) : ∃ a w, l[k]? = some a ∧ ws[k]? = some w ∧ (l.zip ws)[k]? = some (a, w) ∧ a ∈ l ∧ w ∈ ws :=
  ⟨l[k], ws[k]'(by omega), List.getElem?_eq_getElem _, List.getElem?_eq_getElem _, by
    rw [List.getElem?_eq_getElem (by rw [List.length_zip]; omega), List.getElem_zip], List.getElem_mem _, List.getElem_mem _⟩
theorem meanN_eq (l ws : List Nat) : meanN l ws = sZ (l.zip ws) fun p => p.1 * p.2 := rfl
theorem okFR {a b : Nat} : Ok 1 (redN a b) := .tup (by show 2 < _; decide) fun x hx => by
  simp only [List.mem_cons, List.not_mem_nil, or_false] at hx
  rcases hx with rfl | rfl <;> exact .int
theorem okFR' {a b : Nat} : Ok 1 (FR a b) := .tup (by show 2 < _; decide) fun x hx => by
  simp only [List.mem_cons, List.not_mem_nil, or_false] at hx
  rcases hx with rfl | rfl <;> exact .int
theorem nbFR' {a b : Nat} : NB (FR a b) := .tup fun x hx => by
  simp only [List.mem_cons, List.not_mem_nil, or_false] at hx
  rcases hx with rfl | rfl <;> exact .int _
theorem nbFR {a b : Nat} : NB (redN a b) := .tup fun x hx => by
  simp only [List.mem_cons, List.not_mem_nil, or_false] at hx
  rcases hx with rfl | rfl <;> exact .int _
end G

namespace G
open PySem L2 RT PySem.Spec PyProof.Rows
/-! ### texts of data -/
mutual
/-- a bound for the text's length -/
def tc : PyData → Nat
  | .none => 4
  | .bool _ => 5
  | .int i => (Str.ofString (toString i)).length + 1
  | .str x => (reprText x).length + 1
  | .list ds => 3 + tcs ds
  | .tuple ds => 3 + tcs ds
  | .dict _ => 2
def tcs : List PyData → Nat
  | [] => 0
  | d :: ds => tc d + 2 + tcs ds
end
theorem tcs_app : ∀ a b : List PyData, tcs (a ++ b) = tcs a + tcs b
  | [], b => by simp [tcs]
  | d :: a, b => by
    rw [List.cons_append, tcs, tcs, tcs_app a b]
    omega
theorem tcs_mem {d : PyData} : ∀ {ds : List PyData}, d ∈ ds → tc d + 2 ≤ tcs ds
  | e :: ds, h => by
    rw [tcs]
    rcases List.mem_cons.mp h with rfl | h
    · omega
    · have := tcs_mem h
      omega
theorem tcs_sub {a b : List PyData} (h : a.Sublist b) : tcs a ≤ tcs b := by
  induction h with
  | slnil => exact Nat.le_refl _
  | cons d _ ih => rw [tcs]; omega
  | cons_cons d _ ih => rw [tcs, tcs]; omega
theorem tcs_rev : ∀ a : List PyData, tcs a.reverse = tcs a
  | [] => rfl
  | d :: a => by
    rw [List.reverse_cons, tcs_app, tcs_rev a, tcs, tcs, tcs]
    omega
theorem join_len (sep : Str) : ∀ ts : List Str, (Str.join sep ts).length ≤ (ts.map fun t => t.length + sep.length).sum
  | [] => by show (Str.empty).length ≤ _; exact Nat.zero_le _
  | [x] => by
    show x.length ≤ _
    simp
  | x :: y :: r => by
    have ih := join_len sep (y :: r)
    show (x ++ sep ++ Str.join sep (y :: r)).length ≤ _
    rw [strLen_append, strLen_append, List.map_cons, List.sum_cons]
    omega
mutual
theorem shown_len : ∀ {d : PyData}, noDic d = true → d.shown.length ≤ tc d
  | .none, _ => by rw [PyData.shown_none]; decide
  | .bool b, _ => by rw [PyData.shown_bool]; cases b <;> decide
  | .int i, _ => by rw [PyData.shown_int]; exact Nat.le_succ _
  | .str x, _ => by rw [PyData.shown_str]; exact Nat.le_succ _
  | .list ds, h => by
    have ih := shownAll_len (ds := ds) (by simpa [noDic] using h)
    rw [PyData.shown_list, strLen_append, strLen_append]
    have := join_len ", " (PyData.shownAll ds)
    show _ ≤ 3 + tcs ds
    have e1 : (("[" : String) : Str).length = 1 := by decide
    have e2 : (("]" : String) : Str).length = 1 := by decide
    have e3 : ((", " : String) : Str).length = 2 := by decide
    rw [e3] at this
    rw [e1, e2]
    omega
  | .tuple ds, h => by
    have ih := shownAll_len (ds := ds) (by simpa [noDic] using h)
    rw [PyData.shown_tuple, strLen_append, strLen_append]
    have := join_len ", " (PyData.shownAll ds)
    show _ ≤ 3 + tcs ds
    have e1 : (("(" : String) : Str).length = 1 := by decide
    have e2 : ((if ds.length == 1 then ",)" else ")" : String) : Str).length ≤ 2 := by split <;> decide
    have e3 : ((", " : String) : Str).length = 2 := by decide
    rw [e3] at this
    rw [e1]
    omega
  | .dict _, h => by simp [noDic] at h
theorem shownAll_len : ∀ {ds : List PyData}, noDics ds = true → ((PyData.shownAll ds).map fun t => t.length + 2).sum ≤ tcs ds
  | [], _ => by simp [PyData.shownAll]
  | d :: ds, h => by
    have h : noDic d = true ∧ noDics ds = true := by simpa [noDics] using h
    have h1 := shown_len h.1
    have h2 := shownAll_len h.2
    rw [PyData.shownAll_cons, List.map_cons, List.sum_cons, tcs]
    omega
end
/-- data whose text can be told -/
structure Nice (n t : Nat) (d : PyData) : Prop where
  ok : Ok n d
  sh : d.showable = true
  le : tc d ≤ t
theorem showAll_iff : ∀ {ds : List PyData}, PyData.showableAll ds = true ↔ ∀ d ∈ ds, d.showable = true
  | [] => by simp [PyData.showableAll]
  | d :: ds => by
    rw [PyData.showableAll, Bool.and_eq_true, showAll_iff]
    simp
theorem Nice.mono {n t m u : Nat} {d : PyData} (h : Nice n t d) (h1 : n ≤ m) (h2 : t ≤ u) : Nice m u d := ⟨h.ok.mono h1, h.sh, Nat.le_trans h.le h2⟩
theorem nice_int {n t : Nat} {i : Int} (h : i.natAbs.log2 < 1000) (ht : 1002 ≤ t) : Nice n t (.int i) := by
  refine ⟨.int, by simp [PyData.showable]; omega, ?_⟩
  have := int_text_length_le (a := i) (k := 1000) (by decide) h
  show (Str.ofString (toString i)).length + 1 ≤ t
  rw [PySem.ofString_length]
  omega
theorem nice_tup {n t : Nat} {ds : List PyData} (hl : ds.length < 16000000) (h : ∀ d ∈ ds, Ok n d ∧ d.showable = true) (ht : 3 + tcs ds ≤ t) : Nice (n + 1) t (.tuple ds) :=
  ⟨.tup hl fun d hd => (h d hd).1, by rw [PyData.showable]; exact showAll_iff.mpr fun d hd => (h d hd).2, ht⟩
theorem nice_lst {n t : Nat} {ds : List PyData} (hl : ds.length < 16000000) (h : ∀ d ∈ ds, Ok n d ∧ d.showable = true) (ht : 3 + tcs ds ≤ t) : Nice (n + 1) t (.list ds) :=
  ⟨.lst hl fun d hd => (h d hd).1, by rw [PyData.showable]; exact showAll_iff.mpr fun d hd => (h d hd).2, ht⟩
/-- .. or an empty dict -/
def Odd (n t : Nat) (d : PyData) : Prop := Nice n t d ∨ d = .dict []
/-- the text of an odd value -/
def rRepr (K : PySem.W.Frag) : List V → Hp → VK → Prop := fun xs H Q => ∃ v d, xs = [v] ∧ ((Dp K H v d ∧ Nice 60 16000000 d) ∨ (∃ a, v = .ref a ∧ H a = some (.dK []) ∧ d = .dict [])) ∧ Q (.str d.shown) H
theorem Ok.noHas {n : Nat} {d : PyData} (h : Ok n d) : d.hasDict = false := by
  have all : ∀ {ds : List PyData}, (∀ d ∈ ds, d.hasDict = false) → PyData.hasDictAll ds = false := fun {ds} h => by
    induction ds with
    | nil => simp [PyData.hasDictAll]
    | cons d ds ih =>
      rw [PyData.hasDictAll, h d List.mem_cons_self, ih fun x hx => h x (List.mem_cons_of_mem _ hx)]
      rfl
  induction h with
  | non => simp [PyData.hasDict]
  | bl => simp [PyData.hasDict]
  | int => simp [PyData.hasDict]
  | str _ => simp [PyData.hasDict]
  | lst _ h ih => rw [PyData.hasDict]; exact all ih
  | tup _ h ih => rw [PyData.hasDict]; exact all ih
section
variable {X : Cx} {k : Nat}
theorem call_reprD (hg : X.A.guards = some []) (hr : Room k X.A) : CallR X (.builtin "repr") (rRepr X.K) := by
  intro pins s σ H xs us Q I r h
  obtain ⟨v, d, rfl, hd, q⟩ := h
  obtain ⟨u, rfl, ru⟩ := vals1 r
  have hun := hr.un
  have fin : ∀ (h' : Heap) (u' tk : Nat), (∀ b o, s.heap.get? b = some o → h'.get? b = some o) → EP X pins σ Q (.str d.shown u') { s with heap := h', toks := tk } := fun h' u' tk hk => ⟨.str _, H, I.kept hk, ⟨_, rfl⟩, q⟩
  rcases hd with ⟨hd, hn⟩ | ⟨a, rfl, ha, rfl⟩
  · have hsz : d.shown.length ≤ sizeLine := Nat.le_trans (shown_len hn.ok.noDic) (Nat.le_trans hn.le (by decide))
    obtain ⟨as, rd⟩ := hd.reads I d v u ru
    have hdep : d.depth ≤ 60 := hn.ok.can.2
    cases rd with
    | none => exact PySem.P.repr_of_none (by have := fin s.heap s.toks (s.toks + 1) fun _ _ e => e; rwa [PyData.shown_none] at this)
    | bool b => exact PySem.P.repr_of_bool (by have := fin s.heap s.toks (s.toks + 1) fun _ _ e => e; rwa [PyData.shown_bool] at this)
    | int i t => exact PySem.P.repr_of_int (by have := hn.sh; simpa [PyData.showable] using this) (by have := fin s.heap s.toks (s.toks + 1) fun _ _ e => e; rwa [PyData.shown_int] at this)
    | str x t => exact PySem.P.repr_of_str (by have := fin s.heap s.toks (s.toks + 1) fun _ _ e => e; rwa [PyData.shown_str] at this) (by rwa [PyData.shown_str] at hsz)
    | list h1 h2 h3 h4 => exact repr_of_reads' (.list h1 h2 h3 h4) hn.sh (fun z => by rw [hn.ok.noHas] at z; cases z) hg (by omega) (fun _ _ e => e) (fun h' u' tk hk => fin h' u' tk hk) hsz
    | tuple h1 h2 h3 h4 => exact repr_of_reads' (.tuple h1 h2 h3 h4) hn.sh (fun z => by rw [hn.ok.noHas] at z; cases z) hg (by omega) (fun _ _ e => e) (fun h' u' tk hk => fin h' u' tk hk) hsz
    | dict h1 h2 h3 h4 h5 => have := hn.ok.noHas; simp [PyData.hasDict] at this
  · obtain ⟨z, hs, vs, kv, o, es, ep, ho, hx, hdt, r⟩ := I.hok a _ ha
    cases kv
    have hes : es = #[] := by
      have l1 := r.2.1.length
      rw [List.length_nil, Array.length_toList] at l1
      exact Array.eq_empty_of_size_eq_zero (by omega)
    subst hes
    cases (show u = Value.ref a from ru)
    have rd : Reads s.heap (.ref a) (.dict []) (a :: [] ++ []) := .dict ho hx.1 hdt .nil .nil
    refine repr_of_reads' rd (by simp [PyData.showable, PyData.showableKv]) (fun _ hm => ?_) hg (by simp [PyData.depth, PyData.depthKv]; omega) (fun _ _ e => e) (fun h' u' tk hk => fin h' u' tk hk) (by decide +kernel)
    have : a = sysModules := by
      have h2 : sysModules ∈ [a] := hm
      exact (List.mem_singleton.mp h2).symm
    rw [this] at hs
    simp at hs
end
end G

namespace G
open PySem L2 RT PySem.Spec PyProof.Rows
/-! ### a law that is called while no text is being made: the guards are known -/
/-- as FnOk, from a caller whose guards are known -/
structure FnOkG (P : Program) (w : World) (K : PySem.W.Frag) (mg : Str → Option Value) (base : Heap) (CX : CXT) (k : Nat) (f : Addr) (fd : FuncData) (ps : List Str) (sp : Sp) : Prop where
  run : ∀ (A : Around) (outer : List Env) (s : Shared) (H : Hp) (args : Args) (us : List Value) (vs : List V) (Q : VK) (E : XK), Room k A → A.guards = some [] → Env0 P w K mg base A outer s H → BindsTo s fd args (ps.zip us) → Vals vs us → sp vs H Q E →
    codeAny (model P w) A (.call (.ref f) args) (CR CX outer P w H s Q E) s
theorem FnOk.toG {P : Program} {w : World} {K : PySem.W.Frag} {mg : Str → Option Value} {base : Heap} {CX : CXT} {k : Nat} {f : Addr} {fd : FuncData} {ps : List Str} {sp : Sp} (F : FnOk P w K mg base CX k f fd ps sp) : FnOkG P w K mg base CX k f fd ps sp :=
  ⟨fun A outer s H args us vs Q E hr _ => F.run A outer s H args us vs Q E hr⟩
section
variable {P : Program} {w : World} {K : PySem.W.Frag} {mg : Str → Option Value} {base : Heap}
/-- THE RULE for a def by its contract, from known guards -/
theorem ok_ctG {x qual : Str} {st : Stmt} {f : Addr} {fd : FuncData} {N ps : List Str} {k : Nat} {T : List Tb} (c : Ct) (F : Fun K x qual st f fd) (S : FnScope N ps (defScope st)) (hn : c.n = ps.length)
    (h : ∀ (cdv : Value) (A : Around) (outer : List Env) (s : Shared) (H : Hp) (E : XK), fd.code = cdv → A.guards = some [] → Room k (A.deeper (envOfC qual (defScope st) s.heap.objs.size f cdv)) →
      ∃ t, PSs (cxOf CX0 P w K mg base N qual (defScope st) f cdv A outer s H E).nox (defBody st) t ∧
        ∀ (C : CC K T) xs, xs.length = c.n → c.pre xs → ST C t (xs.map some ++ List.replicate (N.length - xs.length) none) [] (c.ends xs)) :
    FnOkG P w K mg base CX0 (k + 1) f fd ps (c.sp K T) := by
  obtain ⟨oc, od, kV, doc, pm, an, cdv, ct, osl, rfl, lk, hcd⟩ := F.ex
  refine ⟨fun A outer s H args us vs Q E hr hg e0 hb r hs => LamX.run_ofS lk hcd S hr e0 hb r (hs.1.trans hn) fun hr2 => ?_⟩
  obtain ⟨t, h1, h2⟩ := h cdv A outer s H E rfl hg hr2
  exact ⟨t, h1.nox, ct_body h2 hs⟩
end
/-- what the law's own objects are, in the heap at the call -/
noncomputable def lawH (K : PySem.W.Frag) (cs : List (Addr × Addr)) (a : Addr) (o : Obj) (ns : List Int) : Hp := fun b =>
  open Classical in if b ∈ cs.map (·.2) then some (.tbl #[]) else if b = a ∧ K.lookup a = none then some (.frz o (.lst (ns.map V.int))) else none
theorem law_callG {P : Program} {w : World} {K : PySem.W.Frag} {mg mb : Str → Option Value} {CX : CXT} {k : Nat} {fa a : Addr} {cs : List (Addr × Addr)} {fd : FuncData} {x : Str} {sp : Sp} {s₁ : Shared} {vs : List Value} {ns : List Int}
    (KX : K.In s₁.heap) (hns : s₁.heap.Ns mainGlobals mg) (hb : s₁.heap.Ns builtinsNs mb) (hbb : ∀ x : Str, x ≠ "__name__" → mb x = bootBuiltins x) (hlim : s₁.heap.NoLimit) (hg : s₁.gens = #[])
    (hT : ∀ p ∈ cs, s₁.heap.get? p.2 = some { cls := .none, data := .fields #[] }) (nT : ∀ p ∈ cs, K.lookup p.2 = none) (hC : ∀ p ∈ cs, PySem.W.CodeHd s₁.heap p.1 p.2)
    (hbm : ∃ (bm : Addr) (ob : Obj), mg "__builtins__" = some (.ref bm) ∧ bm ≠ builtinsNs ∧ s₁.heap.get? bm = some ob ∧ ob.cls = .type "module" ∧ ob.dict = some builtinsNs ∧ ob.data = .plain)
    (ha : s₁.heap.get? a = some { cls := .type "list", data := .seq vs.toArray }) (hi : IntsAre vs ns) (hl : ns.length ≤ sizeLine) (hr : Room k callerA)
    (F : ∀ base : Heap, K.In base → base.Ns mainGlobals mg → (∀ p ∈ cs, LamX.TabB base mg p.1 p.2) → FnOkG P w K mg base CX k fa fd [x] sp) (hbind : ∀ (s : Shared) (u : Value), BindsTo s fd ⟨[u], []⟩ [(x, u)])
    (hsp : ∀ H : Hp, (∀ p ∈ cs, H p.2 = some (.tbl #[])) → SqL K H a (ns.map V.int) → sp [.ref a] H (fun v _ => v = .bl true) fun _ _ _ => False)
    (hCX : ∀ H e s', CX [] H s₁ (fun _ _ _ => False) e s' → False) :
    codeAny (model P w) callerA (.call (.ref fa) ⟨[.ref a], []⟩) (fun r s' => r = .ok (.ret (.bool true)) ∧ OldK s₁.heap s'.heap ∧ s'.os = s₁.os ∧ AllBare s'.gens) s₁ := by
  let o : Obj := { cls := .type "list", data := .seq vs.toArray }
  let H := lawH K cs a o ns
  have tb : ∀ p ∈ cs, p.2 ∈ cs.map (·.2) := fun p hp => List.mem_map.mpr ⟨p, hp, rfl⟩
  have obT : ∀ b ∈ cs.map (·.2), s₁.heap.get? b = some { cls := .none, data := .fields #[] } := fun b h => by
    obtain ⟨p, hp, rfl⟩ := List.mem_map.mp h
    exact hT p hp
  have keyT : ∀ b ∈ cs.map (·.2), H b = some (.tbl #[]) := fun b h => if_pos h
  have keyN : ∀ b, b ∉ cs.map (·.2) → H b = if b = a ∧ K.lookup a = none then some (.frz o (.lst (ns.map V.int))) else none := fun b h => by
    show lawH K cs a o ns b = _
    unfold lawH
    rw [if_neg h]
  have told : ∀ b u, H b = some u → (b ∈ cs.map (·.2) ∧ u = .tbl #[]) ∨ (b = a ∧ K.lookup a = none ∧ u = .frz o (.lst (ns.map V.int))) := fun b u e => by
    by_cases h : b ∈ cs.map (·.2)
    · rw [keyT b h] at e
      exact .inl ⟨h, (Option.some.inj e).symm⟩
    · rw [keyN b h] at e
      by_cases h2 : b = a ∧ K.lookup a = none
      · rw [if_pos h2] at e
        exact .inr ⟨h2.1, h2.2, (Option.some.inj e).symm⟩
      · rw [if_neg h2] at e
        cases e
  have aT : a ∉ cs.map (·.2) := fun z => by
    have := (obT a z).symm.trans ha
    cases this
  have rv := vals_ints hi
  have hok : HOk P w H s₁.heap := fun b u e => by
    rcases told b u e with ⟨h, rfl⟩ | ⟨rfl, _, rfl⟩
    · exact obT b h
    · exact ⟨ha, by rw [List.length_map]; exact hl, vs, _, rv, ha⟩
  have free : ∀ {b : Addr} {u : Obj}, s₁.heap.get? b = some u → u.data ≠ .fields #[] → (∀ vs n, u.data ≠ .seq vs n) → H b = none := fun {b u} e d1 d2 => by
    cases q : H b with
    | none => rfl
    | some y =>
      rcases told b y q with ⟨h, _⟩ | ⟨rfl, _, _⟩
      · rw [obT b h] at e
        cases e
        exact absurd rfl d1
      · rw [ha] at e
        cases e
        exact absurd rfl (d2 _ _)
  have inB : ∀ {b : Addr} {u : Obj}, s₁.heap.get? b = some u → H b = none → (hidT s₁.heap H).get? b = some u := fun e n => hidT_get e n
  have nsB : ∀ {b : Addr} {m : Str → Option Value}, s₁.heap.Ns b m → (hidT s₁.heap H).Ns b m := fun {b m} ⟨u, es, ep, e, d, r⟩ => ⟨u, es, ep, inB e (free e (fun z => by rw [d] at z; cases z) fun _ _ z => by rw [d] at z; cases z), d, r⟩
  have KB : K.In (hidT s₁.heap H) := fun b u e => inB (KX b u e) (by
    cases q : H b with
    | none => rfl
    | some y =>
      rcases told b y q with ⟨h, _⟩ | ⟨rfl, h, _⟩
      · obtain ⟨p, hp, rfl⟩ := List.mem_map.mp h
        rw [nT p hp] at e
        cases e
      · rw [h] at e
        cases e)
  have TB : ∀ p ∈ cs, LamX.TabB (hidT s₁.heap H) mg p.1 p.2 := fun p hp => by
    refine ⟨?_, ?_, fun z => ?_⟩
    · obtain ⟨u, us, file, tf, flags, tg, inF, text, tt, e1, r1, r2, r3, r⟩ := hC p hp
      exact ⟨u, us, file, tf, flags, tg, inF, text, tt, inB e1 (free e1 (fun z => by rw [r2] at z; cases z; simp at r3) fun _ _ z => by rw [r2] at z; cases z), r1, r2, r3, r⟩
    · obtain ⟨bm, ob, b1, b2, b3, b4, b5, b6⟩ := hbm
      refine ⟨bm, ob, b1, b2, fun q => ?_, fun q => ?_, inB b3 (free b3 (fun z => by rw [b6] at z; cases z) fun _ _ z => by rw [b6] at z; cases z), b4, b5, b6⟩
      · obtain ⟨u, es, ep, e, hd, _⟩ := hns
        rw [q, e] at b3
        cases b3
        rw [hd] at b6
        cases b6
      · rw [q, hT p hp] at b3
        cases b3
        cases b6
    · obtain ⟨u, es, ep, e, hd, _⟩ := hns
      rw [z, hT p hp] at e
      cases e
      cases hd
  have hM : L2.Mod K mg (hidT s₁.heap H) := ⟨KB, nsB hns, ⟨mb, nsB hb, hbb⟩, let ⟨mc, h1, h2⟩ := hlim; ⟨mc, nsB h1, h2⟩⟩
  have e0 : Env0 P w K mg (hidT s₁.heap H) callerA [] s₁ H := ⟨rfl, hM, fun b u e => of_hidT e, Nat.le_of_eq (hidT_size _ _), trivial, fun b h => absurd (show b ∈ ([] : List Addr) from h) (by simp), hok, .of_eq hg⟩
  have hS : SqL K H a (ns.map V.int) := by
    cases hk : K.lookup a with
    | some u =>
      have e := KX a u hk
      rw [ha] at e
      cases e
      exact .inr ⟨_, vs.toArray, _, hk, rfl, rfl, rfl, by rw [List.size_toArray, hi.length]; exact hl, by simpa using rv⟩
    | none => exact .inl (.inr ⟨o, by rw [keyN a aT, if_pos ⟨rfl, hk⟩]⟩)
  refine codeAny_mono ((F _ KB (nsB hns) TB).run callerA [] s₁ H ⟨[.ref a], []⟩ [.ref a] [.ref a] _ _ hr rfl e0 (hbind s₁ (.ref a)) (.cons rfl .nil) (hsp H (fun p hp => keyT _ (tb p hp)) hS)) fun r s' h => ?_
  cases r with
  | error e => exact (hCX H e s' h).elim
  | ok fl =>
    cases fl with
    | ret u =>
      obtain ⟨v, H', os, bare, un, hok', r', q⟩ := h
      cases (show v = .bl true from q)
      cases (show u = Value.bool true from r')
      have stays : ∀ b y, b ∉ cs.map (·.2) → s₁.heap.get? b = some y → s'.heap.get? b = some y := fun b y nb e => by
        cases q : H b with
        | none => exact un.keep b y e q (fun z => absurd (show b ∈ ([] : List Addr) from z) (by simp)) (by simp)
        | some u =>
          rcases told b u q with ⟨h, _⟩ | ⟨rfl, _, rfl⟩
          · exact absurd h nb
          · have e2 := (hok' _ _ (un.frzs _ _ _ q)).1
            rw [ha] at e
            cases e
            exact e2
      have grows : ∀ p ∈ cs, ∃ more : Array Value, s'.heap.get? p.2 = some { cls := .none, data := .fields more } := fun p hp => by
        obtain ⟨more, z⟩ := un.tbls p.2 #[] (keyT _ (tb p hp))
        exact ⟨_, hok' p.2 _ z⟩
      refine ⟨rfl, ⟨fun b y e => ?_, fun b y e => ?_⟩, os, bare⟩
      · by_cases h : b ∈ cs.map (·.2)
        · obtain ⟨p, hp, rfl⟩ := List.mem_map.mp h
          obtain ⟨more, hm⟩ := grows p hp
          rw [hT p hp] at e
          cases e
          exact .inr (.inl ⟨((hC p hp).tab (hT p hp)).isCodeTable, rfl, #[], more, rfl, by rw [Array.empty_append]; exact hm⟩)
        · exact .inl (stays b y h e)
      · by_cases h : b ∈ cs.map (·.2)
        · obtain ⟨p, hp, rfl⟩ := List.mem_map.mp h
          obtain ⟨more, hm⟩ := grows p hp
          exact ⟨_, hm⟩
        · exact ⟨y, stays b y h e⟩
    | _ => exact False.elim h
/-- the end of a law that is called from known guards -/
def LawAtG (l : PySem.W.OpenLaw) (w : World) (K : PySem.W.Frag) (CX : CXT) (k n : Nat) (x : Str) (mg : Str → Option Value) (fa : Addr) (h : Heap) : Prop :=
  ∃ (fd : FuncData) (cs : List (Addr × Addr)) (sp : Sp), (∀ p ∈ cs, h.get? p.2 = some { cls := .none, data := .fields #[] }) ∧ (∀ p ∈ cs, K.lookup p.2 = none) ∧ (∀ p ∈ cs, PySem.W.CodeHd h p.1 p.2) ∧ (∀ (s : Shared) (u : Value), BindsTo s fd ⟨[u], []⟩ [(x, u)]) ∧
    (∀ (H : Hp) (a : Addr) (ns : List Int), ns.length ≤ n → (∀ z ∈ ns, Builtin.Int.intBits z ≤ 1048576) → (∀ p ∈ cs, H p.2 = some (.tbl #[])) → SqL K H a (ns.map V.int) → sp [.ref a] H (fun v _ => v = .bl true) fun _ _ _ => False) ∧
    ∀ base : Heap, K.In base → base.Ns mainGlobals mg → (∀ p ∈ cs, LamX.TabB base mg p.1 p.2) → FnOkG l.prog w K mg base CX k fa fd [x] sp
theorem walk_ofGG {l : PySem.W.OpenLaw} {n k : Nat} {q : Program} {loose : List Str} {XP : (Str → Option Value) → Heap → Prop} {YP : World → Heap → Prop} {d : DefRec} {K : Params → PySem.W.Frag} {CX : World → CXT} {x : Str}
    (hn : l.most = some n) (hn2 : n ≤ sizeLine) (hdf : d.params.defaults = []) (hr : Room k callerA) (hY : ∀ (w : World) (h : Heap), YP w h → (K w.params).In h)
    (F : ∀ (w : World) (mg : Str → Option Value) (fa : Addr) (h : Heap), YP w h → (K w.params).In h → h.Ns mainGlobals mg → mg d.name = some (.ref fa) → TabOf q (K w.params) h → LawAtG l w (K w.params) (CX w) k n x mg fa h)
    (hCX : ∀ (w : World) (H : Hp) (s : Shared) (e : Value) (s' : Shared), CX w [] H s (fun _ _ _ => False) e s' → False) :
    PySem.W.WalkO q loose XP YP l.row.toRowW d [] (fun f vs => PySem.call f vs) := by
  refine Att.attach_callB hn hdf fun w s₀ s₁ mg mb fa o pm cd doc a vs ns G Y ho hd hcd hmg hobj hints hlen hbits hg => ?_
  have KX := hY w _ Y
  have tab : TabOf q (K w.params) s₁.heap := fun x c Pt hx ht => by
    have : ((recsOf q).find? fun e => e.name == x).isSome = true := by rw [List.find?_isSome]; exact List.any_eq_true.mp hx
    obtain ⟨d', hd'⟩ := Option.isSome_iff_exists.mp this
    exact PySem.W.tab_of G.T KX hd' ht
  obtain ⟨fd, cs, sp, hT, nT, C, hb, hsp, hF⟩ := F w mg fa _ Y KX G.T.g hmg tab
  exact law_callG KX G.T.g G.T.b G.T.builtins G.T.nolimit hg hT nT C G.T.bmain hobj hints (Nat.le_trans hlen hn2) hr hF hb (fun H hH hS => hsp H a ns hlen hbits hH hS) fun H e s' => hCX w H s₁ e s'
end G

namespace G
open PySem L2 RT PySem.Spec PyProof.Rows MS
/-! ### rules: {}, repr, str(int), != of texts, slices -/
theorem k_repr {X : Cx} {K : PySem.W.Frag} {k : Nat} (hK : X.K = K) (hg : X.A.guards = some []) (hr : Room k X.A) : CallR X (.builtin "repr") (rRepr K) := hK ▸ call_reprD hg hr
def rStrI : List V → Hp → VK → Prop := fun xs H Q => ∃ i, xs = [.int i] ∧ i.natAbs.log2 < 1920 ∧ Q (.str (toString i)) H
theorem k_strI {X : Cx} : CallR X (.type "str") rStrI := call_str_int
section
variable {K : PySem.W.Frag} {T : List Tb} {C : CC K T} {S : SS} {F : FP} {P : SV → FP → Prop} {te : TE} {tlo thi : TO}
theorem tj_dict0 (h : P (.d (.dict [])) F) : TJ C tDNewK S F P := fun σ H rs as Q q p hp => by
  obtain ⟨e, a⟩ := as.laid (o := .dK []) hp
  exact q (.ref p) _ (.d (.dict [])) F e a (Dq.dic (as.seen hp)) h
theorem rc_repr {d : PyData} (hd : Odd 60 16000000 d) (k : P (.d (.str d.shown)) F) : RC C (rRepr K) [.d d] F P := fun H vs as r Q q => by
  obtain ⟨v, rfl, rv⟩ := rvs1 r
  have rv : Dq K (C.hid F H) v d := rv
  refine ⟨v, d, rfl, ?_, q _ H (.d (.str d.shown)) F (Sub.refl _) as (rvS _) k⟩
  rcases hd with hd | rfl
  · exact .inl ⟨dq_dp (dp_sub hid_sub rv) hd.ok.noDic, hd⟩
  · cases rv with
    | dic h => exact .inr ⟨_, rfl, hid_sub _ _ h, rfl⟩
theorem rc_strI {i : Int} (h : i.natAbs.log2 < 1920) (k : P (.d (.str (toString i))) F) : RC C rStrI [dI i] F P := fun H vs as r Q q => by
  obtain ⟨v, rfl, rv⟩ := rvs1 r
  exact ⟨i, by rw [rv.int], h, q _ H (.d (.str _)) F (Sub.refl _) as (rvS _) k⟩
theorem ro_neS {a b : Str} (k : P (dB (!decide (a = b))) F) : RO C rNe (.d (.str a)) (.d (.str b)) F P := fun H v w as rv rw' Q q => by
  cases (show Dq K (C.hid F H) v (.str a) from rv)
  cases (show Dq K (C.hid F H) w (.str b) from rw')
  refine ⟨rfl, ?_⟩
  have e : decide (V.str a = V.str b) = decide (a = b) := by
    by_cases h : a = b
    · rw [decide_eq_true h, decide_eq_true (by rw [h])]
    · rw [decide_eq_false h, decide_eq_false (fun z => h (V.str.inj z))]
  rw [e]
  exact q _ H (dB _) F (Sub.refl _) as (rvB _) k
theorem to_w {to : TO} {PO PO' : Option Int → FP → Prop} (h : TOJ C to S F PO) (k : ∀ o F', PO o F' → PO' o F') : TOJ C to S F PO' := fun σ H rs as Q q => h σ H rs as Q fun o H' F' e a p => q o H' F' e a (k o F' p)
theorem tj_slT (h : TJ C te S F fun x F1 => TOJ C tlo S F1 fun lo F2 => TOJ C thi S F2 fun hi F3 => ∃ ds, x = .d (.tuple ds) ∧ P (.d (.tuple (cutD ds lo hi))) F3) : TJ C (tSl (rSlB K) te tlo thi) S F P :=
  tj_sl (tj_w h fun x F1 h1 => to_w h1 fun lo F2 h2 => to_w h2 fun hi F3 h3 => .inr h3)
theorem tj_slL (h : TJ C te S F fun x F1 => TOJ C tlo S F1 fun lo F2 => TOJ C thi S F2 fun hi F3 => ∃ ds, x = .d (.list ds) ∧ P (.d (.list (cutD ds lo hi))) F3) : TJ C (tSl (rSlB K) te tlo thi) S F P :=
  tj_sl (tj_w h fun x F1 h1 => to_w h1 fun lo F2 h2 => to_w h2 fun hi F3 h3 => .inl h3)
end
theorem cut_from {α : Type} {ds : List α} (k : Nat) : cutD ds (some (k : Int)) none = ds.drop k := by
  unfold cutD
  rw [HT.sIx_nat, HT.sIx_none]
  by_cases h : k ≤ ds.length
  · rw [Nat.min_eq_left h, List.take_of_length_le (by rw [List.length_drop]; omega)]
  · rw [Nat.min_eq_right (by omega), List.drop_length, List.drop_eq_nil_of_le (by omega), List.take_nil]
theorem cut_to {α : Type} {ds : List α} (k : Nat) : cutD ds none (some (k : Int)) = ds.take k := by
  unfold cutD
  rw [HT.sIx_nat, HT.sIx_none, List.drop_zero, Nat.sub_zero]
  by_cases h : k ≤ ds.length
  · rw [Nat.min_eq_left h]
  · rw [Nat.min_eq_right (by omega), List.take_length, List.take_of_length_le (by omega)]
theorem cut_sub {α : Type} {ds : List α} {lo hi : Option Int} : (cutD ds lo hi).Sublist ds := (List.take_sublist _ _).trans (List.drop_sublist _ _)
/-! ### plain data -/
inductive Pl : Nat → PyData → Prop
  | non {n : Nat} : Pl n .none
  | int {n : Nat} {i : Int} : i.natAbs < 2 ^ 900 → Pl n (.int i)
  | str {n : Nat} {x : Str} : (PyData.canLay0 (.str x)) = true → Pl n (.str x)
  | tup {n : Nat} {ds : List PyData} : ds.length ≤ 100000 → (∀ d ∈ ds, Pl n d) → Pl (n + 1) (.tuple ds)
theorem log2_lt {i : Nat} {k : Nat} (h : i < 2 ^ k) (hk : 0 < k) : i.log2 < k := by
  by_cases h0 : i = 0
  · subst h0; simpa using hk
  · exact (Nat.log2_lt h0).mpr h
theorem Pl.ok {n : Nat} {d : PyData} (h : Pl n d) : Ok n d ∧ d.showable = true := by
  induction h with
  | non => exact ⟨.non, by simp [PyData.showable]⟩
  | int hi => exact ⟨.int, by simp only [PyData.showable, decide_eq_true_eq]; have := log2_lt hi (by decide); omega⟩
  | str hx => exact ⟨.str hx, by simp [PyData.showable]⟩
  | tup hl _ ih => exact ⟨.tup (by omega) fun d hd => (ih d hd).1, by rw [PyData.showable]; exact showAll_iff.mpr fun d hd => (ih d hd).2⟩
theorem Pl.nice {n : Nat} {d : PyData} (h : Pl n d) : Nice n (tc d) d := ⟨h.ok.1, h.ok.2, Nat.le_refl _⟩
theorem Pl.tin {n : Nat} {ds : List PyData} (h : Pl n (.tuple ds)) : ∃ m, n = m + 1 ∧ ds.length ≤ 100000 ∧ ∀ d ∈ ds, Pl m d := by
  cases h with
  | tup hl h => exact ⟨_, rfl, hl, h⟩
theorem Pl.mono {n m : Nat} {d : PyData} (h : Pl n d) (hm : n ≤ m) : Pl m d := by
  induction h generalizing m with
  | non => exact .non
  | int h => exact .int h
  | str h => exact .str h
  | tup hl _ ih => cases m with
    | zero => omega
    | succ m => exact .tup hl fun d hd => ih d hd (by omega)
def spotAt : PyData → List Nat → Option PyData
  | v, [] => some v
  | .tuple ds, k :: r => match ds[k]? with
    | some d => spotAt d r
    | none => none
  | _, _ :: _ => none
theorem spot_nil (v : PyData) : spotAt v [] = some v := by unfold spotAt; cases v <;> rfl
theorem spot_cons {v w : PyData} {k : Nat} {r : List Nat} (h : spotAt v (k :: r) = some w) : ∃ ds d, v = .tuple ds ∧ ds[k]? = some d ∧ spotAt d r = some w := by
  cases v with
  | tuple ds =>
    rw [spotAt] at h
    cases e : ds[k]? with
    | none => rw [e] at h; cases h
    | some d =>
      rw [e] at h
      exact ⟨ds, d, rfl, e, h⟩
  | _ => simp [spotAt] at h
theorem spot_tup {ds : List PyData} {d w : PyData} {k : Nat} {r : List Nat} (e : ds[k]? = some d) (h : spotAt d r = some w) : spotAt (.tuple ds) (k :: r) = some w := by
  rw [spotAt, e]
  exact h
theorem spot_pl : ∀ {r : List Nat} {n : Nat} {v w : PyData}, Pl n v → spotAt v r = some w → Pl n w ∧ tc w ≤ tc v ∧ r.length ≤ n
  | [], n, v, w, h, e => by
    rw [spot_nil] at e
    cases e
    exact ⟨h, Nat.le_refl _, Nat.zero_le _⟩
  | k :: r, n, v, w, h, e => by
    obtain ⟨ds, d, rfl, e1, e2⟩ := spot_cons e
    obtain ⟨m, rfl, hl, hd⟩ := h.tin
    have hm := List.mem_of_getElem? e1
    obtain ⟨h1, h2, h3⟩ := spot_pl (hd d hm) e2
    have := tcs_mem hm
    refine ⟨h1.mono (by omega), ?_, by rw [List.length_cons]; omega⟩
    rw [tc]
    omega
theorem tc_pos (d : PyData) : 1 ≤ tc d := by
  cases d with
  | none => rw [tc]; decide
  | bool b => rw [tc]; decide
  | int i => rw [tc]; omega
  | str x => rw [tc]; omega
  | list ds => rw [tc]; omega
  | tuple ds => rw [tc]; omega
  | dict ds => rw [tc]; decide
def putAt : PyData → List Nat → PyData → PyData
  | _, [], item => item
  | .tuple ds, k :: r, item => .tuple (ds.take k ++ putAt (ds.getD k .none) r item :: ds.drop (k + 1))
  | v, _ :: _, _ => v
theorem put_nil (v item : PyData) : putAt v [] item = item := by unfold putAt; cases v <;> rfl
theorem tcs_at {ds : List PyData} {k : Nat} {d : PyData} (h : ds[k]? = some d) : tcs ds = tcs (ds.take k) + (tc d + 2 + tcs (ds.drop (k + 1))) := by
  obtain ⟨h1, h2⟩ := List.getElem?_eq_some_iff.mp h
  have e : ds = ds.take k ++ d :: ds.drop (k + 1) := by
    conv => lhs; rw [← List.take_append_drop k ds]
    rw [List.drop_eq_getElem_cons h1, h2]
  conv => lhs; rw [e]
  rw [tcs_app, tcs]
theorem put_nice : ∀ {r : List Nat} {n m u : Nat} {v w item : PyData}, Pl n v → Nice m u item → spotAt v r = some w → Nice (n + m) (tc v + u) (putAt v r item)
  | [], n, m, u, v, w, item, h, hi, e => by
    have e : putAt v [] item = item := by unfold putAt; cases v <;> rfl
    rw [e]
    exact hi.mono (by omega) (by omega)
  | k :: r, n, m, u, v, w, item, h, hi, e => by
    obtain ⟨ds, d, rfl, e1, e2⟩ := spot_cons e
    obtain ⟨n', rfl, hl, hd⟩ := h.tin
    have ih := put_nice (hd d (List.mem_of_getElem? e1)) hi e2
    rw [putAt, List.getD_eq_getElem?_getD, e1]
    show Nice (n' + 1 + m) (tc (.tuple ds) + u) (.tuple (ds.take k ++ putAt d r item :: ds.drop (k + 1)))
    rw [show n' + 1 + m = (n' + m) + 1 by omega]
    refine nice_tup ?_ (fun x hx => ?_) ?_
    · rw [List.length_append, List.length_cons, List.length_take, List.length_drop]
      omega
    · rcases List.mem_append.mp hx with hx | hx
      · have := (hd x (List.mem_of_mem_take hx)).ok
        exact ⟨this.1.mono (by omega), this.2⟩
      · rcases List.mem_cons.mp hx with rfl | hx
        · exact ⟨ih.ok, ih.sh⟩
        · have := (hd x (List.mem_of_mem_drop hx)).ok
          exact ⟨this.1.mono (by omega), this.2⟩
    · rw [tcs_app, tcs, tc, tcs_at e1]
      have := ih.le
      omega
/-! ### contracts -/
abbrev dL (p : List Nat) : SV := .d (.list (pN p))
def c_spots (n : Nat) : Ct := ⟨2, fun xs => ∃ (v : PyData) (path : List Nat) (k : Nat), xs = [.d v, dL path] ∧ Pl k v ∧ k < n ∧ tc v ≤ 1000000 ∧ path.length + k ≤ 1000, fun xs y F => F = [] ∧ ∃ ps : List (List Nat), y = .d (.list (ps.map fun p => .list (pN p))) ∧ ∀ v path, xs = [.d v, dL path] → ps ≠ [] ∧ ps.length ≤ tc v ∧ ∀ p ∈ ps, ∃ rel w, p = path ++ rel ∧ spotAt v rel = some w⟩
def c_spot : Ct := ⟨2, fun xs => ∃ (v w : PyData) (path : List Nat), xs = [.d v, dL path] ∧ spotAt v path = some w ∧ path.length ≤ 1000, fun xs y F => F = [] ∧ ∃ w, y = .d w ∧ ∀ v path, xs = [.d v, dL path] → spotAt v path = some w⟩
def c_sput (n : Nat) : Ct := ⟨3, fun xs => ∃ (v w item : PyData) (path : List Nat) (k : Nat), xs = [.d v, dL path, .d item] ∧ spotAt v path = some w ∧ path.length < n ∧ Pl k v ∧ k ≤ 1000, fun xs y F => F = [] ∧ ∃ d, y = .d d ∧ ∀ v path item, xs = [.d v, dL path, .d item] → d = putAt v path item⟩
def c_bspot : CtB := ⟨2, fun mo xs => isPool mo ∧ ∃ (v : PyData) (n : Nat), xs = [.d v] ∧ Pl n v ∧ n ≤ 40 ∧ tc v ≤ 1000000, fun mo xs y mo' => isPool mo' ∧ ∃ d, y = .d d ∧ ∀ v, xs = [.d v] → ∀ n, Pl n v → Nice (n + 2) (2 * tc v + 20000) d⟩
def c_odd : Ct := ⟨0, fun xs => xs = [], fun xs y F => F = [] ∧ ∃ ds, y = .d (.list ds) ∧ ds.length ≤ 30 ∧ ∀ d ∈ ds, Odd 3 200 d⟩
def c_bent (k : Nat) : CtB := ⟨3, fun mo xs => isPool mo ∧ ∃ (d0 : PyData) (ds : List PyData) (many : Nat), xs = [.d (.tuple (d0 :: ds)), dI many] ∧ Pl k (.tuple (d0 :: ds)) ∧ tc (.tuple (d0 :: ds)) ≤ 100000 ∧ many ≤ 1000, fun mo xs y mo' => isPool mo' ∧ ∃ ds, y = .d (.list ds) ∧ ds.length ≤ 2000 ∧ ∀ d ∈ ds, Odd 50 1000000 d⟩
def c_put : Ct := ⟨3, fun xs => ∃ (ds : List PyData) (k : Nat) (item : PyData), xs = [.d (.tuple ds), dI k, .d item] ∧ k < ds.length ∧ ds.length ≤ 100000, fun xs y F => F = [] ∧ ∃ d, y = .d d ∧ ∀ (ds : List PyData) (k : Nat) (item : PyData), xs = [.d (.tuple ds), dI k, .d item] → d = .tuple (ds.take k ++ item :: ds.drop (k + 1))⟩
def c_brow : CtB := ⟨2, fun mo xs => isPool mo ∧ ∃ ns : List Int, xs = [.d (.tuple (ns.map .int))] ∧ ns.length ≤ 100 ∧ ∀ i ∈ ns, i.natAbs < 2 ^ 60, fun mo xs y mo' => isPool mo' ∧ ∃ ds, y = .d (.tuple ds) ∧ Nice 2 20000 (.tuple ds)⟩
/-! ### for the scripts -/
theorem char_lt (c : Char) : c.toNat < 1114112 := by
  have := c.valid
  rcases this with h | ⟨_, h⟩
  · have : c.toNat < 55296 := h
    omega
  · exact h
theorem strOk_of (x : String) : PyData.strOk (Str.ofString x) = true := by
  unfold PyData.strOk
  rw [Array.all_eq_true']
  intro c hc
  have hc : c ∈ (Str.ofString x).cps.toList := by simpa using hc
  rw [signs_ofString] at hc
  obtain ⟨d, _, rfl⟩ := List.mem_map.mp hc
  exact decide_eq_true (char_lt d)
theorem nice_txt {n t : Nat} {i : Int} (h : i.natAbs.log2 < 1000) (ht : 10013 ≤ t) : Nice n t (.str (Str.ofString (toString i))) := by
  refine ⟨.str (by rw [PyData.canLay0]; exact strOk_of _), by simp [PyData.showable], ?_⟩
  rw [tc]
  have h1 := int_text_length_le (a := i) (k := 1000) (by decide) h
  have h2 := StrLaws.reprText_len (Str.ofString (toString i)) fun c hc => by
    rw [signs_ofString] at hc
    obtain ⟨d, _, rfl⟩ := List.mem_map.mp hc
    have := char_lt d
    omega
  rw [PySem.ofString_length] at h2
  omega
theorem nice_memT {n t : Nat} {ds es : List PyData} (hl : es.length < 16000000) (hd : ∀ d ∈ ds, Pl n d) (hm : ∀ d ∈ es, d ∈ ds ∨ d = .int 0) (ht : 3 + tcs es ≤ t) : Nice (n + 1) t (.tuple es) :=
  nice_tup hl (fun d h => by
    rcases hm d h with h | rfl
    · exact (hd d h).ok
    · exact ⟨.int, by decide⟩) ht
theorem nice_memL {n t : Nat} {ds es : List PyData} (hl : es.length < 16000000) (hd : ∀ d ∈ ds, Pl n d) (hm : ∀ d ∈ es, d ∈ ds ∨ d = .int 0) (ht : 3 + tcs es ≤ t) : Nice (n + 1) t (.list es) :=
  nice_lst hl (fun d h => by
    rcases hm d h with h | rfl
    · exact (hd d h).ok
    · exact ⟨.int, by decide⟩) ht
theorem tcs_cut (ds : List PyData) (lo hi : Option Int) : tcs (cutD ds lo hi) ≤ tcs ds := tcs_sub cut_sub
theorem cut_len {α : Type} {ds : List α} {lo hi : Option Int} : (cutD ds lo hi).length ≤ ds.length := cut_sub.length_le
theorem ints_tc {n : Nat} : ∀ {ms : List Int}, (∀ i ∈ ms, i.natAbs < 2 ^ 60) → (∀ d ∈ ms.map PyData.int, Ok n d ∧ d.showable = true) ∧ tcs (ms.map .int) ≤ 70 * ms.length
  | [], _ => ⟨(fun _ h => nomatch h), Nat.le_refl _⟩
  | j :: ms, h => by
    obtain ⟨h1, h2⟩ := ints_tc (n := n) fun i hi => h i (List.mem_cons_of_mem _ hi)
    have h3 := log2_lt (h j List.mem_cons_self) (by decide)
    have h4 := int_text_length_le (a := j) (k := 60) (by decide) h3
    refine ⟨fun d hd => ?_, ?_⟩
    · rcases List.mem_cons.mp hd with rfl | hd
      · exact ⟨.int, by simp only [PyData.showable, decide_eq_true_eq]; omega⟩
      · exact h1 d hd
    · rw [List.map_cons, tcs, tc, List.length_cons, PySem.ofString_length]
      omega
theorem nice_ints {ms : List Int} (h : ∀ i ∈ ms, i.natAbs < 2 ^ 60) (hl : ms.length ≤ 1000) : Nice 1 70003 (.tuple (ms.map .int)) := by
  obtain ⟨h1, h2⟩ := ints_tc (n := 0) h
  exact nice_tup (by rw [List.length_map]; omega) h1 (by omega)
theorem nice_word {n t u : Nat} {w : Str} {d : PyData} (hw : PyData.canLay0 (.str w) = true) (ht : tc (.str w) ≤ 100) (h : Nice n t d) (hu : t + 107 ≤ u) : Nice (n + 1) u (.tuple [.str w, d]) := by
  refine nice_tup (by simp) (fun x hx => ?_) ?_
  · simp only [List.mem_cons, List.not_mem_nil, or_false] at hx
    rcases hx with rfl | rfl
    · exact ⟨.str hw, by simp [PyData.showable]⟩
    · exact ⟨h.ok, h.sh⟩
  · rw [tcs, tcs, tcs]
    have := h.le
    omega
theorem pl_ints {n : Nat} {ms : List Int} (h : ∀ i ∈ ms, i.natAbs < 2 ^ 60) (hl : ms.length ≤ 1000) : Pl (n + 1) (.tuple (ms.map .int)) :=
  .tup (by rw [List.length_map]; omega) fun d hd => by
    obtain ⟨i, hi, rfl⟩ := List.mem_map.mp hd
    exact .int (Nat.lt_of_lt_of_le (h i hi) (Nat.pow_le_pow_right (by decide) (by decide)))
theorem dot_le : ∀ {l : List Nat} {cs : List Int}, (∀ a ∈ l, 1 ≤ a) → (∀ c ∈ cs, 0 ≤ c) → cs.length = l.length → 0 ≤ dotI l cs ∧ ∀ c ∈ cs, c ≤ dotI l cs
  | [], [], _, _, _ => ⟨Int.le_refl _, fun _ h => nomatch h⟩
  | [], _ :: _, _, _, h => by simp at h
  | _ :: _, [], _, _, h => by simp at h
  | a :: l, c :: cs, h1, h2, h3 => by
    obtain ⟨g1, g2⟩ := dot_le (fun x hx => h1 x (List.mem_cons_of_mem _ hx)) (fun x hx => h2 x (List.mem_cons_of_mem _ hx)) (by simpa using h3)
    have e : dotI (a :: l) (c :: cs) = (a : Int) * c + dotI l cs := by
      unfold dotI
      rw [List.zipWith_cons_cons, List.sum_cons]
    have ha := h1 a List.mem_cons_self
    have hc := h2 c List.mem_cons_self
    have : c ≤ (a : Int) * c := by
      have := Int.mul_le_mul_of_nonneg_right (show (1 : Int) ≤ a by omega) hc
      omega
    rw [e]
    refine ⟨by omega, fun x hx => ?_⟩
    rcases List.mem_cons.mp hx with rfl | hx
    · omega
    · have := g2 x hx
      omega
theorem mpaper_pl {l : List Nat} {n : Int} {d : PyData} (hb : BaseB l) (h : MPaper l n d) (hn : n ≤ 1000000000) : ∃ d0 ds, d = .tuple (d0 :: ds) ∧ Pl 2 d ∧ tc d ≤ 100000 := by
  have key : ∀ (w : Str) (ms : List Int), PyData.canLay0 (.str w) = true → tc (.str w) ≤ 100 → (∀ i ∈ ms, i.natAbs < 2 ^ 60) → ms.length ≤ 1000 → Pl 2 (.tuple [.str w, .tuple (ms.map .int)]) ∧ tc (.tuple [.str w, .tuple (ms.map .int)]) ≤ 100000 := fun w ms hw ht hms hl => by
    refine ⟨.tup (by simp) fun d hd => ?_, ?_⟩
    · simp only [List.mem_cons, List.not_mem_nil, or_false] at hd
      rcases hd with rfl | rfl
      · exact .str hw
      · exact pl_ints hms hl
    · exact Nat.le_trans (nice_word (n := 1) hw ht (nice_ints hms hl) (Nat.le_refl _)).le (by decide)
  have hbd := hb.bd
  have hlen := hb.len
  rcases h with ⟨_, cs, rfl, h1, h2, h3⟩ | ⟨_, row, rfl, hr⟩
  · have hd := dot_le hb.b.pos h2 h1
    exact ⟨_, _, rfl, key "in" cs (by decide +kernel) (by decide +kernel) (fun i hi => by have := hd.2 i hi; have := h2 i hi; omega) (by omega)⟩
  · rw [pN_ints]
    refine ⟨_, _, rfl, key "out" _ (by decide +kernel) (by decide +kernel) (fun i hi => ?_) (by rw [List.length_map, hr.1]; omega)⟩
    obtain ⟨v, hv, rfl⟩ := List.mem_map.mp hi
    have := RowN.bd hb hr v hv
    omega
theorem sum_bd {c : Int} : ∀ {L : List Int}, (∀ x ∈ L, 0 ≤ x ∧ x ≤ c) → 0 ≤ L.sum ∧ L.sum ≤ c * L.length
  | [], _ => by simp
  | a :: L, h => by
    have h1 := h a List.mem_cons_self
    have h2 := sum_bd (c := c) fun x hx => h x (List.mem_cons_of_mem _ hx)
    rw [List.sum_cons, List.length_cons, Int.natCast_add, Int.mul_add]
    omega
theorem Odd.mono {n t m u : Nat} {d : PyData} (h : Odd n t d) (h1 : n ≤ m) (h2 : t ≤ u) : Odd m u d := h.elim (fun h => .inl (h.mono h1 h2)) .inr
theorem Odd.okD {n t : Nat} {d : PyData} (h : Odd n t d) : OkD n d := h.elim (fun h => .inl h.ok) .inr
section
variable {K : PySem.W.Frag} {T : List Tb} {C : CC K T} {F : FP} {P : SV → FP → Prop}
theorem cl_ctb1 {c : CtB} {p : Addr} {mo : MO} {xs : List SV} (hn : xs.length + 1 = c.n) (hp : c.pre mo xs) (k : ∀ y mo', c.post mo xs y mo' → P y [(p, mo')]) : CL C (c.sp K T) (.m p :: xs) [(p, mo)] P :=
  cl_ctb (c := c) hn (List.Mem.head _) hp fun y mo' h => by
    rw [setF_one]
    exact k y mo' h
theorem cl_ctb2 {c : CtB} {p D : Addr} {o mo : MO} {xs : List SV} (hne : p ≠ D) (hn : xs.length + 1 = c.n) (hp : c.pre mo xs) (k : ∀ y mo', c.post mo xs y mo' → P y [(D, o), (p, mo')]) : CL C (c.sp K T) (.m p :: xs) [(D, o), (p, mo)] P :=
  cl_ctb (c := c) hn (List.Mem.tail _ (List.Mem.head _)) hp fun y mo' h => by
    have e : setF [(D, o), (p, mo)] p mo' = [(D, o), (p, mo')] := by simp [setF, Ne.symm hne]
    rw [e]
    exact k y mo' h
end
end G

namespace G
open PySem L2 RT PySem.Spec PyProof.Rows MS
/-! ### values told to the letter: the footprint stays -/
/-- exactly x, the footprint as it was -/
abbrev Is (x : SV) (F : FP) : SV → FP → Prop := fun y F' => y = x ∧ F' = F
abbrev IsB (b : Bool) (F : FP) : Bool → FP → Prop := fun c F' => c = b ∧ F' = F
theorem setF_three {D a p : Addr} {o o2 mo mo' : MO} (h1 : p ≠ D) (h2 : p ≠ a) : setF [(D, o), (a, o2), (p, mo)] p mo' = [(D, o), (a, o2), (p, mo')] := by simp [setF, Ne.symm h1, Ne.symm h2]
theorem setF_mid {D a p : Addr} {o o2 o' mo : MO} (h1 : a ≠ D) (h2 : p ≠ a) : setF [(D, o), (a, o2), (p, mo)] a o' = [(D, o), (a, o'), (p, mo)] := by simp [setF, Ne.symm h1, h2]
theorem setF_fst {a p : Addr} {o o' mo : MO} (h : p ≠ a) : setF [(a, o), (p, mo)] a o' = [(a, o'), (p, mo)] := by simp [setF, h]
theorem map_snoc {us : List PyData} {d : PyData} : us.map SV.d ++ [SV.d d] = (us ++ [d]).map .d := by rw [List.map_append]; rfl
section
variable {K : PySem.W.Frag} {T : List Tb} {C : CC K T} {S : SS} {F : FP} {P : SV → FP → Prop} {PB : Bool → FP → Prop} {PL : List SV → FP → Prop} {te ta tb tc : TE} {tt tu : TT} {tl : TA} {E : SE} {b c : Bool} {x : SV}
theorem tj_ev (h : TJ C te S F (Is x F)) (k : P x F) : TJ C te S F P := tj_w h fun y F' ⟨e, f⟩ => by subst e f; exact k
theorem tb_w {PB' : Bool → FP → Prop} (h : TB C tt S F PB') (k : ∀ b F', PB' b F' → PB b F') : TB C tt S F PB := fun σ H rs as Q q => h σ H rs as Q fun b H' F' e a p => q b H' F' e a (k b F' p)
theorem tb_ev (h : TB C tt S F (IsB b F)) (k : PB b F) : TB C tt S F PB := tb_w h fun y F' ⟨e, f⟩ => by subst e f; exact k
theorem tj_andE (h1 : TJ C ta S F (Is (dB b) F)) (h2 : b = true → TJ C tb S F (Is (dB c) F)) (k : P (dB (b && c)) F) : TJ C (tAndV ta tb) S F P :=
  tj_andV (tj_w h1 fun y F' ⟨e, f⟩ => by
    subst e f
    refine ⟨b, rfl, fun hb => ?_, fun hb => ?_⟩
    · subst hb
      exact tj_ev (h2 rfl) k
    · subst hb
      exact k)
theorem tj_orE (h1 : TJ C ta S F (Is (dB b) F)) (h2 : b = false → TJ C tb S F (Is (dB c) F)) (k : P (dB (b || c)) F) : TJ C (tOrV ta tb) S F P :=
  tj_orV (tj_w h1 fun y F' ⟨e, f⟩ => by
    subst e f
    refine ⟨b, rfl, fun hb => ?_, fun hb => ?_⟩
    · subst hb
      exact tj_ev (h2 rfl) k
    · subst hb
      exact k)
theorem tj_notE (h1 : TJ C ta S F (Is (dB b) F)) (k : P (dB (!b)) F) : TJ C (tNotV ta) S F P :=
  tj_notV (tj_w h1 fun y F' ⟨e, f⟩ => by subst e f; exact ⟨b, rfl, k⟩)
theorem tb_andE (h1 : TB C tt S F (IsB b F)) (h2 : b = true → TB C tu S F (IsB c F)) (k : PB (b && c) F) : TB C (tAnd tt tu) S F PB :=
  tb_and (tb_w h1 fun y F' ⟨e, f⟩ => by
    subst e f
    refine ⟨fun hb => ?_, fun hb => ?_⟩
    · subst hb
      exact tb_ev (h2 rfl) k
    · subst hb
      exact k)
theorem tb_orE (h1 : TB C tt S F (IsB b F)) (h2 : b = false → TB C tu S F (IsB c F)) (k : PB (b || c) F) : TB C (tOr tt tu) S F PB :=
  tb_or (tb_w h1 fun y F' ⟨e, f⟩ => by
    subst e f
    refine ⟨fun hb => ?_, fun hb => ?_⟩
    · subst hb
      exact k
    · subst hb
      exact tb_ev (h2 rfl) k)
theorem tb_notE (h1 : TB C tt S F (IsB b F)) (k : PB (!b) F) : TB C (tNot tt) S F PB := tb_not (tb_w h1 fun y F' ⟨e, f⟩ => by subst e f; exact k)
theorem tb_testE (h : TJ C te S F (Is (dB b) F)) (k : PB b F) : TB C (tTest te) S F PB := tb_test (tj_w h fun y F' ⟨e, f⟩ => by subst e f; exact ⟨b, rfl, k⟩)
theorem tb_BE (h : TJ C te S F (Is (dB b) F)) (k : PB b F) : TB C (tB te) S F PB := tb_testE h k
/-- if .. else .. of ints, of data -/
theorem tj_ifI {i j : Int} (h : TB C tt S F (IsB b F)) (h1 : b = true → TJ C ta S F (Is (dI i) F)) (h2 : b = false → TJ C tb S F (Is (dI j) F)) (k : P (dI (if b = true then i else j)) F) : TJ C (tIf tt ta tb) S F P :=
  tj_if (tb_w h fun y F' ⟨e, f⟩ => by
    subst e f
    refine ⟨fun hb => ?_, fun hb => ?_⟩
    · subst hb
      exact tj_ev (h1 rfl) k
    · subst hb
      exact tj_ev (h2 rfl) k)
theorem tj_ifD {d e : PyData} (h : TB C tt S F (IsB b F)) (h1 : b = true → TJ C ta S F (Is (.d d) F)) (h2 : b = false → TJ C tb S F (Is (.d e) F)) (k : P (.d (if b = true then d else e)) F) : TJ C (tIf tt ta tb) S F P :=
  tj_if (tb_w h fun y F' ⟨e, f⟩ => by
    subst e f
    refine ⟨fun hb => ?_, fun hb => ?_⟩
    · subst hb
      exact tj_ev (h1 rfl) k
    · subst hb
      exact tj_ev (h2 rfl) k)
theorem st_ifE {t u : TS} {c : TT} (h : TB C c S F (IsB b F)) (h1 : b = true → ST C t S F E) (h2 : b = false → ST C u S F E) : ST C (tIfS c t u) S F E :=
  st_if (tb_w h fun y F' ⟨e, f⟩ => by subst e f; exact ⟨h1, h2⟩)
/-- a chain of two -/
theorem tj_chainE {r r' : R2} {y z : SV} (h1 : TJ C ta S F (Is x F)) (h2 : TJ C tb S F (Is y F)) (h3 : RO C r x y F (Is (dB b) F)) (h4 : b = true → TJ C tc S F (Is z F)) (h5 : b = true → RO C r' y z F (Is (dB c) F)) (k : P (dB (b && c)) F) : TJ C (tChain r r' ta tb tc) S F P :=
  tj_chain (tj_w h1 fun _ _ ⟨e, f⟩ => by
    subst e f
    refine tj_w h2 fun _ _ ⟨e, f⟩ => ?_
    subst e f
    intro H v w as rv rw' Q q
    refine h3 H v w as rv rw' Q fun z' H' u F' e a r ⟨eu, ef⟩ => q z' H' u F' e a r ?_
    subst eu ef
    refine ⟨b, rfl, fun hb => ?_, fun hb => ?_⟩
    · refine tj_w (h4 hb) fun _ _ ⟨e, f⟩ => ?_
      subst e f
      intro H v w as rv rw' Q q
      refine h5 hb H v w as rv rw' Q fun z' H' u F' e a r ⟨eu, ef⟩ => q z' H' u F' e a r ?_
      subst eu ef hb
      exact k
    · subst hb
      exact k)
/-! ### what is walked -/
/-- a walked value: k takes the items -/
def SeqOf (x : SV) (k : List SV → Prop) : Prop := ∃ ds, (x = .d (.tuple ds) ∨ x = .d (.list ds)) ∧ k (ds.map .d)
theorem seq_t {α : Type} {f : α → PyData} {l : List α} {k : List SV → Prop} (h : k (l.map fun a => .d (f a))) : SeqOf (.d (.tuple (l.map f))) k := ⟨_, .inl rfl, by rw [List.map_map]; exact h⟩
theorem seq_l {α : Type} {f : α → PyData} {l : List α} {k : List SV → Prop} (h : k (l.map fun a => .d (f a))) : SeqOf (.d (.list (l.map f))) k := ⟨_, .inr rfl, by rw [List.map_map]; exact h⟩
theorem seq_t0 {ds : List PyData} {k : List SV → Prop} (h : k (ds.map .d)) : SeqOf (.d (.tuple ds)) k := ⟨_, .inl rfl, h⟩
theorem seq_l0 {ds : List PyData} {k : List SV → Prop} (h : k (ds.map .d)) : SeqOf (.d (.list ds)) k := ⟨_, .inr rfl, h⟩
theorem it_seqE (h : TJ C te S F fun x F1 => SeqOf x fun ys => PL ys F1) : IT C (iSeq K te) S F PL := it_seqX (tj_w h fun x F1 ⟨ds, hx, k⟩ => ⟨ds, hx, k⟩)
/-- range(j): j a natural number, or not -/
def RngOf (xs : List SV) (k : List SV → Prop) : Prop := ∃ j : Int, xs = [dI j] ∧ (-(2 ^ 62) ≤ j ∧ j < 2 ^ 62) ∧ k ((List.range j.toNat).map fun i => dI (i : Nat))
theorem rng_n {n : Nat} {k : List SV → Prop} (hn : n < 4611686018427387904) (h : k ((List.range n).map fun i => dI (i : Nat))) : RngOf [dI (n : Nat)] k := ⟨n, rfl, by omega, h⟩
theorem rng_i {n : Int} {k : List SV → Prop} (hn : -4611686018427387904 ≤ n ∧ n < 4611686018427387904) (h : k ((List.range n.toNat).map fun i => dI (i : Nat))) : RngOf [dI n] k := ⟨n, rfl, by omega, h⟩
theorem it_rng1E (h : TL C tl S F fun xs F1 => RngOf xs fun ys => PL ys F1) : IT C (iRng1 tl) S F PL := it_rng1 (fun σ H rs as Q q => h σ H rs as Q fun vs H' xs F' e a r ⟨j, ex, hb, k⟩ => q vs H' xs F' e a r ⟨j, ex, hb, by
  rw [rg0]
  exact k⟩)
/-- range(i, j) -/
def Rng2Of (xs : List SV) (k : List SV → Prop) : Prop := ∃ i j : Int, xs = [dI i, dI j] ∧ (-(2 ^ 62) ≤ i ∧ i < 2 ^ 62 ∧ -(2 ^ 62) ≤ j ∧ j < 2 ^ 62) ∧ k ((List.range (j - i).toNat).map fun (n : Nat) => dI (i + (n : Int)))
theorem rng2_i {i j : Int} {k : List SV → Prop} (hn : -4611686018427387904 ≤ i ∧ i < 4611686018427387904 ∧ -4611686018427387904 ≤ j ∧ j < 4611686018427387904) (h : k ((List.range (j - i).toNat).map fun (n : Nat) => dI (i + (n : Int)))) : Rng2Of [dI i, dI j] k := ⟨i, j, rfl, by omega, h⟩
theorem it_rng2E (h : TL C tl S F fun xs F1 => Rng2Of xs fun ys => PL ys F1) : IT C (iRng2 tl) S F PL := it_rng2 (fun σ H rs as Q q => h σ H rs as Q fun vs H' xs F' e a r ⟨i, j, ex, hb, k⟩ => q vs H' xs F' e a r ⟨i, j, ex, hb, k⟩)
theorem it_w {wi : TI} {PL' : List SV → FP → Prop} (h : IT C wi S F PL') (k : ∀ ys F', PL' ys F' → PL ys F') : IT C wi S F PL := fun σ H rs as R q => h σ H rs as R fun J H1 F1 ys Gd Yr e1 a1 W hG hY p => q J H1 F1 ys Gd Yr e1 a1 W hG hY (k ys F1 p)
abbrev IsL (xs : List SV) (F : FP) : List SV → FP → Prop := fun ys F' => ys = xs ∧ F' = F
/-- all, any -/
theorem tj_allE {Pt : Addr} {wi : TI} {g : TG} {N : List Str} {js : List Nat} (hP : TabOne T Pt) {α : Type} {l : List α} {enc : α → SV} {φ : α → Bool} (hi : IT C wi S F (IsL (l.map enc) F))
    (ht : ∀ a, a ∈ l → TGJ C g (enc a) (startS N js S) F fun S2 F2 => KeepS (startS N js S) S2 ∧ TJ C te S2 F2 (Is (dB (φ a)) F)) (k : P (dB (l.all φ)) F) : TJ C (tGenG Pt wi g te N js allW) S F P :=
  tj_all hP (it_w hi fun ys F' ⟨e, f⟩ => by subst e f; exact ⟨α, l, enc, φ, rfl, ht, k⟩)
theorem tj_anyE {Pt : Addr} {wi : TI} {g : TG} {N : List Str} {js : List Nat} (hP : TabOne T Pt) {α : Type} {l : List α} {enc : α → SV} {φ : α → Bool} (hi : IT C wi S F (IsL (l.map enc) F))
    (ht : ∀ a, a ∈ l → TGJ C g (enc a) (startS N js S) F fun S2 F2 => KeepS (startS N js S) S2 ∧ TJ C te S2 F2 (Is (dB (φ a)) F)) (k : P (dB (l.any φ)) F) : TJ C (tGenG Pt wi g te N js anyW) S F P :=
  tj_any hP (it_w hi fun ys F' ⟨e, f⟩ => by subst e f; exact ⟨α, l, enc, φ, rfl, ht, k⟩)
/-- a comprehension, frozen -/
theorem tj_lcE {wi : TI} {g : TG} {vs : List Nat} {α : Type} {l : List α} {enc : α → SV} {bb : α → Bool} {f : α → PyData} (hw : WipeOk g vs) (hi : IT C wi S F (IsL (l.map enc) F)) (hz : l.length < 16000000)
    (ht : ∀ D acc a, a ∈ l → D ∉ F.map (·.1) → TGJ C g (enc a) (wipeS S vs) ((D, .lst acc) :: F) fun S2 F2 => F2 = (D, .lst acc) :: F ∧ TB C tt S2 F2 (IsB (bb a) F2) ∧ (bb a = true → TJ C te S2 F2 (Is (.d (f a)) F2)))
    (k : P (.d (.list ((l.filter bb).map f))) F) : TJ C (tLc wi g tt te vs) S F P :=
  tj_lcD hw (it_w hi fun ys F' ⟨e, ef⟩ => by
    subst e ef
    refine ⟨α, l, enc, bb, f, rfl, hz, fun D acc a ha hD => ?_, k⟩
    intro σ H v rs as rv Q q
    refine ht D acc a ha hD σ H v rs as rv Q fun σ2 H2 S2 F2 e rs2 a2 ⟨ef, h1, h2⟩ => q σ2 H2 S2 F2 e rs2 a2 ?_
    subst ef
    refine tb_w h1 fun b F3 ⟨eb, ef⟩ => ?_
    subst eb ef
    exact ⟨rfl, rfl, fun hb => tj_w (h2 hb) fun z F4 ⟨ez, ef⟩ => ⟨ef, ez⟩⟩)
/-- .. without a test -/
theorem tj_lcM {wi : TI} {g : TG} {vs : List Nat} {α : Type} {l : List α} {enc : α → SV} {f : α → PyData} (hw : WipeOk g vs) (hi : IT C wi S F (IsL (l.map enc) F)) (hz : l.length < 16000000)
    (ht : ∀ D acc a, a ∈ l → D ∉ F.map (·.1) → TGJ C g (enc a) (wipeS S vs) ((D, .lst acc) :: F) fun S2 F2 => F2 = (D, .lst acc) :: F ∧ TJ C te S2 F2 (Is (.d (f a)) F2))
    (k : P (.d (.list (l.map f))) F) : TJ C (tLc wi g tYes te vs) S F P :=
  tj_lcE (bb := fun _ => true) (f := f) hw hi hz (fun D acc a ha hD => by
    intro σ H v rs as rv Q q
    refine ht D acc a ha hD σ H v rs as rv Q fun σ2 H2 S2 F2 e rs2 a2 ⟨ef, h2⟩ => q σ2 H2 S2 F2 e rs2 a2 ⟨ef, tb_yes ⟨rfl, rfl⟩, fun _ => h2⟩) (by rw [fil_true]; exact k)
/-! ### contracts of a value told to the letter, by what the caller picks -/
def Ct.one (n : Nat) (xs0 : List SV) (p : Prop) (v : SV) : Ct := ⟨n, fun xs => xs = xs0 ∧ p, fun _ y F => F = [] ∧ y = v⟩
structure CF (α : Type) where
  n : Nat
  enc : α → List SV
  pre : α → Prop
  val : α → SV
abbrev CF.one {α : Type} (c : CF α) (a : α) : Ct := Ct.one c.n (c.enc a) (c.pre a) (c.val a)
noncomputable def CF.sp {α : Type} (K : PySem.W.Frag) (T : List Tb) (c : CF α) : Sp := fun vs H Q E => vs.length = c.n ∧ ∃ a, (c.one a).sp K T vs H Q E
abbrev cf0 (n : Nat) (e : List SV) (p : Prop) (v : SV) : CF Unit := ⟨n, fun _ => e, fun _ => p, fun _ => v⟩
abbrev cf1 {α : Type} (n : Nat) (e : α → List SV) (p : α → Prop) (v : α → SV) : CF α := ⟨n, e, p, v⟩
abbrev cf2 {α β : Type} (n : Nat) (e : α → β → List SV) (p : α → β → Prop) (v : α → β → SV) : CF (α × β) := ⟨n, fun a => e a.1 a.2, fun a => p a.1 a.2, fun a => v a.1 a.2⟩
abbrev cf3 {α β γ : Type} (n : Nat) (e : α → β → γ → List SV) (p : α → β → γ → Prop) (v : α → β → γ → SV) : CF (α × β × γ) := ⟨n, fun a => e a.1 a.2.1 a.2.2, fun a => p a.1 a.2.1 a.2.2, fun a => v a.1 a.2.1 a.2.2⟩
abbrev cf4 {α β γ δ : Type} (n : Nat) (e : α → β → γ → δ → List SV) (p : α → β → γ → δ → Prop) (v : α → β → γ → δ → SV) : CF (α × β × γ × δ) := ⟨n, fun a => e a.1 a.2.1 a.2.2.1 a.2.2.2, fun a => p a.1 a.2.1 a.2.2.1 a.2.2.2, fun a => v a.1 a.2.1 a.2.2.1 a.2.2.2⟩
theorem cl_f {α : Type} {c : CF α} (a : α) (hn : (c.enc a).length = c.n) (hp : c.pre a) (k : P (c.val a) F) : CL C (c.sp K T) (c.enc a) F P := fun E H vs as r Q q =>
  ⟨(rvs_len r).symm.trans hn, a, cl_ct (c := c.one a) hn ⟨rfl, hp⟩ (fun y F' ⟨ef, ey⟩ _ => by subst ef ey; exact k) E H vs as r Q q⟩
theorem cl_f0 {n : Nat} {e : List SV} {p : Prop} {v : SV} (hp : p) (k : P v F) (hn : e.length = n := by rfl) : CL C ((cf0 n e p v).sp K T) e F P := cl_f (c := cf0 n e p v) () hn hp k
theorem cl_f1 {α : Type} {n : Nat} {e : α → List SV} {p : α → Prop} {v : α → SV} {a : α} (hp : p a) (k : P (v a) F) (hn : (e a).length = n := by rfl) : CL C ((cf1 n e p v).sp K T) (e a) F P := cl_f (c := cf1 n e p v) a hn hp k
theorem cl_f2 {α β : Type} {n : Nat} {e : α → β → List SV} {p : α → β → Prop} {v : α → β → SV} {a : α} {b : β} (hp : p a b) (k : P (v a b) F) (hn : (e a b).length = n := by rfl) : CL C ((cf2 n e p v).sp K T) (e a b) F P := cl_f (c := cf2 n e p v) (a, b) hn hp k
theorem cl_f3 {α β γ : Type} {n : Nat} {e : α → β → γ → List SV} {p : α → β → γ → Prop} {v : α → β → γ → SV} {a : α} {b : β} {c : γ} (hp : p a b c) (k : P (v a b c) F) (hn : (e a b c).length = n := by rfl) : CL C ((cf3 n e p v).sp K T) (e a b c) F P := cl_f (c := cf3 n e p v) (a, b, c) hn hp k
theorem cl_f4 {α β γ δ : Type} {n : Nat} {e : α → β → γ → δ → List SV} {p : α → β → γ → δ → Prop} {v : α → β → γ → δ → SV} {a : α} {b : β} {c : γ} {d : δ} (hp : p a b c d) (k : P (v a b c d) F) (hn : (e a b c d).length = n := by rfl) : CL C ((cf4 n e p v).sp K T) (e a b c d) F P := cl_f (c := cf4 n e p v) (a, b, c, d) hn hp k
theorem ends_f {n : Nat} {xs zs : List SV} {p : Prop} {v y : SV} (h : y = v) : ((Ct.one n xs p v).ends zs).rt y F := ends_of ⟨rfl, h⟩
theorem ends_fd {n : Nat} {xs zs : List SV} {p : Prop} {d e : PyData} (h : d = e) : ((Ct.one n xs p (.d e)).ends zs).rt (.d d) F := ends_of ⟨rfl, by rw [h]⟩
theorem ends_fI {n : Nat} {xs zs : List SV} {p : Prop} {d e : Int} (h : d = e) : ((Ct.one n xs p (dI e)).ends zs).rt (dI d) F := ends_of ⟨rfl, by rw [h]⟩
theorem ends_fB {n : Nat} {xs zs : List SV} {p : Prop} {d e : Bool} (h : d = e) : ((Ct.one n xs p (dB e)).ends zs).rt (dB d) F := ends_of ⟨rfl, by rw [h]⟩
/-- an owned list is handed back -/
theorem ends_fM {n : Nat} {xs zs : List SV} {p : Prop} {a : Addr} {ds es : List PyData} (hm : (a, MO.lst (ds.map .d)) ∈ F) (h : ds = es) : ((Ct.one n xs p (.d (.list es))).ends zs).rt (.m a) F := ends_fr hm ⟨rfl, by rw [h]⟩
end
section
variable {P : Program} {w : World} {K : PySem.W.Frag} {mg : Str → Option Value} {base : Heap}
theorem ok_cf {α : Type} {x qual : Str} {st : Stmt} {f : Addr} {fd : FuncData} {N ps : List Str} {k : Nat} {T : List Tb} (c : CF α) (F : Fun K x qual st f fd) (S : FnScope N ps (defScope st)) (hn : c.n = ps.length)
    (h : ∀ (cdv : Value) (A : Around) (outer : List Env) (s : Shared) (H : Hp) (E : XK), Room k (A.deeper (envOfC qual (defScope st) s.heap.objs.size f cdv)) →
      ∃ t, PSs (cxOf CX0 P w K mg base N qual (defScope st) f cdv A outer s H E).nox (defBody st) t ∧
        ∀ a, c.pre a → ∀ (C : CC K T), ST C t ((c.enc a).map some ++ List.replicate (N.length - (c.enc a).length) none) [] ((c.one a).ends (c.enc a))) :
    FnOk P w K mg base CX0 (k + 1) f fd ps (c.sp K T) :=
  F.ok S (fun vs H Q E hs => hs.1.trans hn) fun cdv A outer s H vs Q E hr ⟨_, a, hs⟩ =>
    let ⟨t, h1, h2⟩ := h cdv A outer s H E hr
    ⟨t, h1, ct_body (c := c.one a) (fun C xs _ hp => by
      obtain ⟨rfl, hp⟩ := hp
      exact h2 a hp C) hs⟩
theorem ok_cfT {α : Type} {x qual : Str} {st : Stmt} {f cd : Addr} {fd : FuncData} {N ps : List Str} {k : Nat} {T : List Tb} (c : CF α) (F : Fun K x qual st f fd) (hc : fd.code = .ref cd) (S : FnScope N ps (defScope st)) (hn : c.n = ps.length)
    (h : ∀ (A : Around) (outer : List Env) (s : Shared) (H : Hp) (E : XK), Room k (A.deeper (envOfC qual (defScope st) s.heap.objs.size f (.ref cd))) →
      ∃ t, PSs (cxOf CX0 P w K mg base N qual (defScope st) f (.ref cd) A outer s H E).nox (defBody st) t ∧
        ∀ a, c.pre a → ∀ (C : CC K T), ST C t ((c.enc a).map some ++ List.replicate (N.length - (c.enc a).length) none) [] ((c.one a).ends (c.enc a))) :
    FnOk P w K mg base CX0 (k + 1) f fd ps (c.sp K T) := by
  obtain ⟨oc, od, kV, doc, pm, an, cdv, ct, osl, rfl, lk, hcd⟩ := F.ex
  have e : cdv = .ref cd := hc
  subst e
  refine fn_of lk hcd S (fun vs H Q E hs => hs.1.trans hn) fun A outer s H vs Q E hr ⟨_, a, hs⟩ => ?_
  obtain ⟨t, h1, h2⟩ := h A outer s H E hr
  exact ⟨t, h1.nox, ct_body (c := c.one a) (fun C xs _ hp => by
      obtain ⟨rfl, hp⟩ := hp
      exact h2 a hp C) hs⟩
/-- a contract from another -/
theorem cf_ct {α : Type} {T : List Tb} {c : CF α} {o : Ct} (hn : c.n = o.n) (h1 : ∀ a, c.pre a → o.pre (c.enc a)) (h2 : ∀ a y F, c.pre a → o.post (c.enc a) y F → F = [] ∧ y = c.val a) : ∀ vs H Q E, c.sp K T vs H Q E → o.sp K T vs H Q E := by
  rintro vs H Q E ⟨hl, a, hl2, xs, U, hU, hT, rv, ⟨rfl, hp⟩, k⟩
  exact ⟨hl.trans hn, c.enc a, U, hU, hT, rv, h1 a hp, fun y F' v H' hpo => k y F' v H' (h2 a y F' hp hpo)⟩
end
end G

namespace G
open PySem L2 RT PySem.Spec PyProof.Rows MS
/-! ### the rules for macros: turns told by names of their own -/
section
variable {K : PySem.W.Frag} {T : List Tb} {C : CC K T} {S : SS} {F : FP} {P : SV → FP → Prop} {PB : Bool → FP → Prop} {PL : List SV → FP → Prop} {te ta tb tc : TE} {tt tu : TT} {tl : TA} {E : SE} {b c : Bool} {x : SV}
/-- a turn of a comprehension: a test, an element -/
def LcT (C : CC K T) (tt : TT) (te : TE) (F0 : FP) (b : Bool) (x : SV) : SS → FP → Prop := fun S2 F2 => F2 = F0 ∧ TB C tt S2 F0 (IsB b F0) ∧ (b = true → TJ C te S2 F0 (Is x F0))
theorem lcT_go (h1 : TB C tt S F (IsB b F)) (h2 : b = true → TJ C te S F (Is x F)) : LcT C tt te F b x S F := ⟨rfl, h1, h2⟩
def LcM (C : CC K T) (te : TE) (F0 : FP) (x : SV) : SS → FP → Prop := fun S2 F2 => F2 = F0 ∧ TJ C te S2 F0 (Is x F0)
theorem lcM_go (h2 : TJ C te S F (Is x F)) : LcM C te F x S F := ⟨rfl, h2⟩
def GenE (C : CC K T) (te : TE) (S0 : SS) (F0 : FP) (x : SV) : SS → FP → Prop := fun S2 F2 => KeepS S0 S2 ∧ F2 = F0 ∧ TJ C te S2 F0 (Is x F0)
theorem genE_go {S0 : SS} (hk : KeepS S0 S) (h2 : TJ C te S F (Is x F)) : GenE C te S0 F x S F := ⟨hk, rfl, h2⟩
/-- a turn: the bound is known to come from the list -/
def Turn {α : Type} (l : List α) (k : α → Prop) : Prop := ∀ a, a ∈ l → k a
theorem turn_go {α : Type} {l : List α} {k : α → Prop} (h : ∀ a, a ∈ l → k a) : Turn l k := h
theorem turn_rng {n : Nat} {k : Nat → Prop} (h : ∀ a, a < n → k a) : Turn (List.range n) k := fun a ha => h a (List.mem_range.mp ha)
def Fr (D : Addr) (F : FP) : Prop := D ∉ F.map (·.1)
def Lng (n : Nat) : Prop := n < 16000000
theorem tgj_w {g : TG} {PS PS' : SS → FP → Prop} (h : TGJ C g x S F PS) (k : ∀ S' F', PS S' F' → PS' S' F') : TGJ C g x S F PS' := fun σ H v rs as rv Q q => h σ H v rs as rv Q fun σ' H' S' F' e rs' as' p => q σ' H' S' F' e rs' as' (k S' F' p)
theorem tj_lcX {wi : TI} {g : TG} {vs : List Nat} {α : Type} {l : List α} {enc : α → SV} {bb : α → Bool} {f : α → PyData} (hw : WipeOk g vs) (hi : IT C wi S F (IsL (l.map enc) F)) (hz : Lng l.length)
    (ht : Turn l fun a => ∀ D acc, Fr D F → TGJ C g (enc a) (wipeS S vs) ((D, .lst acc) :: F) (LcT C tt te ((D, .lst acc) :: F) (bb a) (.d (f a))))
    (k : P (.d (.list ((l.filter bb).map f))) F) : TJ C (tLc wi g tt te vs) S F P :=
  tj_lcE hw hi hz (fun D acc a ha hD => tgj_w (ht a ha D acc hD) fun S2 F2 ⟨ef, h1, h2⟩ => by subst ef; exact ⟨rfl, h1, h2⟩) k
theorem tj_lcY {wi : TI} {g : TG} {vs : List Nat} {α : Type} {l : List α} {enc : α → SV} {f : α → PyData} (hw : WipeOk g vs) (hi : IT C wi S F (IsL (l.map enc) F)) (hz : Lng l.length)
    (ht : Turn l fun a => ∀ D acc, Fr D F → TGJ C g (enc a) (wipeS S vs) ((D, .lst acc) :: F) (LcM C te ((D, .lst acc) :: F) (.d (f a))))
    (k : P (.d (.list (l.map f))) F) : TJ C (tLc wi g tYes te vs) S F P :=
  tj_lcM hw hi hz (fun D acc a ha hD => tgj_w (ht a ha D acc hD) fun S2 F2 ⟨ef, h2⟩ => by subst ef; exact ⟨rfl, h2⟩) k
theorem tj_allX {Pt : Addr} {wi : TI} {g : TG} {N : List Str} {js : List Nat} (hP : TabOne T Pt) {α : Type} {l : List α} {enc : α → SV} {φ : α → Bool} (hi : IT C wi S F (IsL (l.map enc) F))
    (ht : Turn l fun a => TGJ C g (enc a) (startS N js S) F (GenE C te (startS N js S) F (dB (φ a)))) (k : P (dB (l.all φ)) F) : TJ C (tGenG Pt wi g te N js allW) S F P :=
  tj_allE hP hi (fun a ha => tgj_w (ht a ha) fun S2 F2 ⟨hk, ef, h⟩ => by subst ef; exact ⟨hk, h⟩) k
theorem tj_anyX {Pt : Addr} {wi : TI} {g : TG} {N : List Str} {js : List Nat} (hP : TabOne T Pt) {α : Type} {l : List α} {enc : α → SV} {φ : α → Bool} (hi : IT C wi S F (IsL (l.map enc) F))
    (ht : Turn l fun a => TGJ C g (enc a) (startS N js S) F (GenE C te (startS N js S) F (dB (φ a)))) (k : P (dB (l.any φ)) F) : TJ C (tGenG Pt wi g te N js anyW) S F P :=
  tj_anyE hP hi (fun a ha => tgj_w (ht a ha) fun S2 F2 ⟨hk, ef, h⟩ => by subst ef; exact ⟨hk, h⟩) k
/-! ### items, told with a default -/
theorem getD_some {α : Type} {l : List α} {k : Nat} {d : α} (h : k < l.length) : l[k]? = some (l.getD k d) := by
  rw [List.getD_eq_getElem?_getD, List.getElem?_eq_getElem h]
  rfl
theorem ro_ixNk {l : List Nat} {k : Nat} (h : k < l.length) (q : P (dI (l.getD k 0 : Nat)) F) : RO C (rIx K) (tN l) (dI (k : Nat)) F P := ro_ixT (atI_n (map_get (getD_some (d := 0) h))) q
theorem ro_ixNi {l : List Nat} {i : Int} (h0 : 0 ≤ i) (h : i.toNat < l.length) (q : P (dI (l.getD i.toNat 0 : Nat)) F) : RO C (rIx K) (tN l) (dI i) F P := ro_ixT (atI_nat' h0 (map_get (getD_some (d := 0) h))) q
abbrev tI (l : List Int) : SV := .d (.tuple (l.map .int))
abbrev lI (l : List Int) : SV := .d (.list (l.map .int))
abbrev lN (l : List Nat) : SV := .d (.list (pN l))
theorem ro_ixIk {l : List Int} {k : Nat} (h : k < l.length) (q : P (dI (l.getD k 0)) F) : RO C (rIx K) (tI l) (dI (k : Nat)) F P := ro_ixT (atI_n (map_get (getD_some (d := 0) h))) q
theorem ro_ixIi {l : List Int} {i : Int} (h0 : 0 ≤ i) (h : i.toNat < l.length) (q : P (dI (l.getD i.toNat 0)) F) : RO C (rIx K) (tI l) (dI i) F P := ro_ixT (atI_nat' h0 (map_get (getD_some (d := 0) h))) q
theorem ro_ixLNk {l : List Nat} {k : Nat} (h : k < l.length) (q : P (dI (l.getD k 0 : Nat)) F) : RO C (rIx K) (lN l) (dI (k : Nat)) F P := ro_ixL (atI_n (map_get (getD_some (d := 0) h))) q
theorem ro_ixLNi {l : List Nat} {i : Int} (h0 : 0 ≤ i) (h : i.toNat < l.length) (q : P (dI (l.getD i.toNat 0 : Nat)) F) : RO C (rIx K) (lN l) (dI i) F P := ro_ixL (atI_nat' h0 (map_get (getD_some (d := 0) h))) q
theorem ro_ixLIk {l : List Int} {k : Nat} (h : k < l.length) (q : P (dI (l.getD k 0)) F) : RO C (rIx K) (lI l) (dI (k : Nat)) F P := ro_ixL (atI_n (map_get (getD_some (d := 0) h))) q
theorem ro_ixLIi {l : List Int} {i : Int} (h0 : 0 ≤ i) (h : i.toNat < l.length) (q : P (dI (l.getD i.toNat 0)) F) : RO C (rIx K) (lI l) (dI i) F P := ro_ixL (atI_nat' h0 (map_get (getD_some (d := 0) h))) q
/-! ### sums, greatest, least, sorted -/
theorem rc_sumX {α : Type} {l : List α} {g : α → Int} (k : P (dI ((l.map g).sum)) F) : RC C (rSum K) [.d (.list (l.map fun a => .int (g a)))] F P := rc_sum (ns := l.map g) (.inl (by rw [List.map_map]; rfl)) k
/-- the greatest, the least of ints; 0 of none -/
def maxI : List Int → Int
  | [] => 0
  | [a] => a
  | a :: b :: l => max a (maxI (b :: l))
def minI : List Int → Int
  | [] => 0
  | [a] => a
  | a :: b :: l => min a (minI (b :: l))
theorem maxI_mem : ∀ {l : List Int}, l ≠ [] → maxI l ∈ l ∧ ∀ y ∈ l, y ≤ maxI l
  | [], h => absurd rfl h
  | [a], _ => ⟨List.mem_cons_self, fun y hy => by cases List.mem_singleton.mp hy; exact Int.le_refl _⟩
  | a :: b :: l, _ => by
    obtain ⟨h1, h2⟩ := maxI_mem (l := b :: l) (by simp)
    rw [maxI]
    refine ⟨?_, fun y hy => ?_⟩
    · rcases Int.le_total a (maxI (b :: l)) with h | h
      · rw [Int.max_eq_right h]; exact List.mem_cons_of_mem _ h1
      · rw [Int.max_eq_left h]; exact List.mem_cons_self
    · rcases List.mem_cons.mp hy with rfl | hy
      · omega
      · have := h2 y hy
        omega
theorem minI_mem : ∀ {l : List Int}, l ≠ [] → minI l ∈ l ∧ ∀ y ∈ l, minI l ≤ y
  | [], h => absurd rfl h
  | [a], _ => ⟨List.mem_cons_self, fun y hy => by cases List.mem_singleton.mp hy; exact Int.le_refl _⟩
  | a :: b :: l, _ => by
    obtain ⟨h1, h2⟩ := minI_mem (l := b :: l) (by simp)
    rw [minI]
    refine ⟨?_, fun y hy => ?_⟩
    · rcases Int.le_total a (minI (b :: l)) with h | h
      · rw [Int.min_eq_left h]; exact List.mem_cons_self
      · rw [Int.min_eq_right h]; exact List.mem_cons_of_mem _ h1
    · rcases List.mem_cons.mp hy with rfl | hy
      · omega
      · have := h2 y hy
        omega
theorem maxI_is {l : List Int} {m : Int} (h1 : m ∈ l) (h2 : ∀ y ∈ l, y ≤ m) : maxI l = m := by
  obtain ⟨a, b⟩ := maxI_mem (l := l) (fun e => by rw [e] at h1; cases h1)
  have := h2 _ a
  have := b _ h1
  omega
theorem minI_is {l : List Int} {m : Int} (h1 : m ∈ l) (h2 : ∀ y ∈ l, m ≤ y) : minI l = m := by
  obtain ⟨a, b⟩ := minI_mem (l := l) (fun e => by rw [e] at h1; cases h1)
  have := h2 _ a
  have := b _ h1
  omega
theorem rc_maxX {α : Type} {l : List α} {g : α → Int} (hn : l ≠ []) (k : P (dI (maxI (l.map g))) F) : RC C (rMaxA K) [.d (.list (l.map fun a => .int (g a)))] F P := rc_maxA (ns := l.map g) (.inl (.inl (by rw [List.map_map]; rfl))) (by simpa using hn) fun m h1 h2 => by rw [maxI_is h1 h2] at k; exact k
theorem rc_minX {α : Type} {l : List α} {g : α → Int} (hn : l ≠ []) (k : P (dI (minI (l.map g))) F) : RC C (rMinA K) [.d (.list (l.map fun a => .int (g a)))] F P := rc_minA (ns := l.map g) (.inl (.inl (by rw [List.map_map]; rfl))) (by simpa using hn) fun m h1 h2 => by rw [minI_is h1 h2] at k; exact k
theorem rc_maxXT {α : Type} {l : List α} {g : α → Int} (hn : l ≠ []) (k : P (dI (maxI (l.map g))) F) : RC C (rMaxA K) [.d (.tuple (l.map fun a => .int (g a)))] F P := rc_maxA (ns := l.map g) (.inr (by rw [List.map_map]; rfl)) (by simpa using hn) fun m h1 h2 => by rw [maxI_is h1 h2] at k; exact k
theorem rc_minXT {α : Type} {l : List α} {g : α → Int} (hn : l ≠ []) (k : P (dI (minI (l.map g))) F) : RC C (rMinA K) [.d (.tuple (l.map fun a => .int (g a)))] F P := rc_minA (ns := l.map g) (.inr (by rw [List.map_map]; rfl)) (by simpa using hn) fun m h1 h2 => by rw [minI_is h1 h2] at k; exact k
theorem rc_max2X {i j : Int} (k : P (dI (max i j)) F) : RC C (fun xs H Q => ∃ i j, xs = [V.int i, V.int j] ∧ Q (.int (if j > i then j else i)) H) [dI i, dI j] F P := rc_max2 (by
  have : (if j > i then j else i) = max i j := by split <;> omega
  rw [this]; exact k)
theorem rc_min2X {i j : Int} (k : P (dI (min i j)) F) : RC C (fun xs H Q => ∃ i j, xs = [V.int i, V.int j] ∧ Q (.int (if j < i then j else i)) H) [dI i, dI j] F P := rc_min2 (by
  have : (if j < i then j else i) = min i j := by split <;> omega
  rw [this]; exact k)
/-- sorted ints -/
def insI (a : Int) : List Int → List Int
  | [] => [a]
  | b :: l => if a ≤ b then a :: b :: l else b :: insI a l
def sortI : List Int → List Int
  | [] => []
  | a :: l => insI a (sortI l)
theorem insI_perm (a : Int) : ∀ l, (insI a l).Perm (a :: l)
  | [] => .refl _
  | b :: l => by
    rw [insI]
    split
    · exact .refl _
    · exact ((insI_perm a l).cons b).trans (.swap a b l)
theorem insI_so {a : Int} : ∀ {l : List Int}, l.Pairwise (· ≤ ·) → (insI a l).Pairwise (· ≤ ·)
  | [], _ => List.pairwise_singleton _ _
  | b :: l, h => by
    rw [insI]
    have hb := List.pairwise_cons.mp h
    split
    · rename_i hab
      exact List.pairwise_cons.mpr ⟨fun y hy => by
        rcases List.mem_cons.mp hy with rfl | hy
        · exact hab
        · have := hb.1 y hy
          omega, h⟩
    · rename_i hab
      refine List.pairwise_cons.mpr ⟨fun y hy => ?_, insI_so hb.2⟩
      rcases List.mem_cons.mp ((insI_perm a l).mem_iff.mp hy) with rfl | hy
      · omega
      · exact hb.1 y hy
theorem sortI_perm : ∀ l, (sortI l).Perm l
  | [] => .refl _
  | a :: l => (insI_perm a _).trans ((sortI_perm l).cons a)
theorem sortI_so : ∀ l, (sortI l).Pairwise (· ≤ ·)
  | [] => .nil
  | a :: l => insI_so (sortI_so l)
theorem le_ext : ∀ {xs ys : List Int}, xs.Perm ys → xs.Pairwise (· ≤ ·) → ys.Pairwise (· ≤ ·) → xs = ys
  | [], ys, p, _, _ => (p.nil_eq).symm ▸ rfl
  | x :: xs, [], p, _, _ => by have := p.length_eq; simp at this
  | x :: xs, y :: ys, p, h1, h2 => by
    have e1 := List.pairwise_cons.mp h1
    have e2 := List.pairwise_cons.mp h2
    have a1 : x ∈ y :: ys := p.mem_iff.mp List.mem_cons_self
    have a2 : y ∈ x :: xs := p.mem_iff.mpr List.mem_cons_self
    have : x = y := by
      rcases List.mem_cons.mp a1 with e | a1
      · exact e
      · rcases List.mem_cons.mp a2 with e | a2
        · exact e.symm
        · have := e1.1 y a2
          have := e2.1 x a1
          omega
    subst this
    rw [le_ext (List.Perm.cons_inv p) e1.2 e2.2]
theorem sortI_is {l l' : List Int} (p : l'.Perm l) (s : l'.Pairwise (· ≤ ·)) : l' = sortI l := le_ext (p.trans (sortI_perm l).symm) s (sortI_so l)
theorem sortI_id {l : List Int} (s : l.Pairwise (· ≤ ·)) : sortI l = l := (sortI_is (.refl l) s).symm
theorem rc_sortX {α : Type} {l : List α} {g : α → Int} (k : P (lI (sortI (l.map g))) F) : RC C (rSortedI K) [.d (.list (l.map fun a => .int (g a)))] F P := rc_sortedI (ns := l.map g) (.inl (by rw [List.map_map]; rfl)) fun ns' p s => by rw [sortI_is p s]; exact k
theorem rc_lenTM {α : Type} {l : List α} {f : α → PyData} (k : P (dI (l.length : Int)) F) : RC C (fun xs H Q => ∃ p ys, xs = [V.ref p] ∧ (SqL K H p ys ∨ SqT K H p ys) ∧ Q (.int ys.length) H) [.d (.tuple (l.map f))] F P := rc_lenT (by rw [List.length_map]; exact k)
theorem rc_lenLM {α : Type} {l : List α} {f : α → PyData} (k : P (dI (l.length : Int)) F) : RC C (fun xs H Q => ∃ p ys, xs = [V.ref p] ∧ (SqL K H p ys ∨ SqT K H p ys) ∧ Q (.int ys.length) H) [.d (.list (l.map f))] F P := rc_lenL (by rw [List.length_map]; exact k)
/-! ### tests -/
theorem ro_eqNB {d e : PyData} {n m : Nat} (hd : Ok n d) (h1 : n ≤ 60) (he : Ok m e) (h2 : m ≤ 60) (nd : NB d) (ne : NB e) [Decidable (d = e)] (k : P (dB (decide (d = e))) F) : RO C (rEqD K) (.d d) (.d e) F P := ro_eqN hd h1 he h2 nd ne fun b hb => by
  have : b = decide (d = e) := by rw [Bool.eq_iff_iff, hb, decide_eq_true_iff]
  rw [this]; exact k
theorem ro_eqTNX {l m : List Nat} (hl : l.length ≤ 100000) (hm : m.length ≤ 100000) (k : P (dB (decide (l = m))) F) : RO C (rEqD K) (tN l) (tN m) F P := ro_eqTN hl hm fun b hb => by
  have : b = decide (l = m) := by rw [Bool.eq_iff_iff, hb, decide_eq_true_iff]
  rw [this]; exact k
end
end G

namespace MS
/-- strictly sorted: the ints of a list, each once -/
def dedI : List Int → List Int
  | [] => []
  | a :: l => if a ∈ l then dedI l else a :: dedI l
theorem mem_dedI : ∀ {l : List Int} {k : Int}, k ∈ dedI l ↔ k ∈ l
  | [], k => Iff.rfl
  | a :: l, k => by
    rw [dedI]
    split
    · rename_i h
      rw [mem_dedI, List.mem_cons]
      exact ⟨.inr, fun z => z.elim (fun e => e ▸ h) id⟩
    · rw [List.mem_cons, List.mem_cons, mem_dedI]
theorem nodup_dedI : ∀ l : List Int, (dedI l).Nodup
  | [] => .nil
  | a :: l => by
    rw [dedI]
    split
    · exact nodup_dedI l
    · rename_i h
      exact List.nodup_cons.mpr ⟨fun z => h (mem_dedI.mp z), nodup_dedI l⟩
def sortSet (l : List Int) : List Int := G.sortI (dedI l)
theorem mem_sortSet {l : List Int} {k : Int} : k ∈ sortSet l ↔ k ∈ l := ((G.sortI_perm _).mem_iff).trans mem_dedI
theorem lt_of_le_nodup : ∀ {l : List Int}, l.Pairwise (· ≤ ·) → l.Nodup → l.Pairwise (· < ·)
  | [], _, _ => .nil
  | x :: l, h, d => by
    obtain ⟨h1, h2⟩ := List.pairwise_cons.mp h
    obtain ⟨d1, d2⟩ := List.nodup_cons.mp d
    refine List.pairwise_cons.mpr ⟨fun y hy => ?_, lt_of_le_nodup h2 d2⟩
    have a := h1 y hy
    have b : x ≠ y := fun z => d1 (z ▸ hy)
    omega
theorem sortSet_so (l : List Int) : (sortSet l).Pairwise (· < ·) := lt_of_le_nodup (G.sortI_so _) ((G.sortI_perm _).nodup_iff.mpr (nodup_dedI l))
theorem sortSet_is {l out : List Int} (h1 : out.Pairwise (· < ·)) (h2 : ∀ k, k ∈ out ↔ k ∈ l) : out = sortSet l := so_ext h1 (sortSet_so l) fun k => (h2 k).trans mem_sortSet.symm
theorem sortSet_congr {l l' : List Int} (h : ∀ k, k ∈ l ↔ k ∈ l') : sortSet l = sortSet l' := sortSet_is (sortSet_so l) fun k => mem_sortSet.trans (h k)
theorem sortSet_id {l : List Int} (h : l.Pairwise (· < ·)) : sortSet l = l := (sortSet_is h fun _ => Iff.rfl).symm
/-- .. of natural numbers -/
def sortN (l : List Nat) : List Nat := (sortSet (l.map fun (n : Nat) => (n : Int))).map Int.toNat
theorem sortN_cast (l : List Nat) : sortSet (l.map fun (n : Nat) => (n : Int)) = (sortN l).map fun (n : Nat) => (n : Int) := by
  unfold sortN
  rw [List.map_map]
  conv => lhs; rw [← List.map_id (sortSet _)]
  apply List.map_congr_left
  intro k hk
  obtain ⟨n, _, rfl⟩ := List.mem_map.mp (mem_sortSet.mp hk)
  rfl
theorem mem_sortN {l : List Nat} {k : Nat} : k ∈ sortN l ↔ k ∈ l := by
  have : ((k : Nat) : Int) ∈ (sortN l).map (fun (n : Nat) => (n : Int)) ↔ ((k : Nat) : Int) ∈ l.map fun (n : Nat) => (n : Int) := by rw [← sortN_cast]; exact mem_sortSet
  rw [List.mem_map, List.mem_map] at this
  constructor
  · intro h
    obtain ⟨n, hn, e⟩ := this.mp ⟨k, h, rfl⟩
    cases (show n = k by omega)
    exact hn
  · intro h
    obtain ⟨n, hn, e⟩ := this.mpr ⟨k, h, rfl⟩
    cases (show n = k by omega)
    exact hn
theorem sortN_so (l : List Nat) : (sortN l).Pairwise (· < ·) := by
  have h := sortSet_so (l.map fun (n : Nat) => (n : Int))
  rw [sortN_cast, List.pairwise_map] at h
  exact h.imp fun z => by omega
theorem sortN_is {l out : List Nat} (h1 : out.Pairwise (· < ·)) (h2 : ∀ k, k ∈ out ↔ k ∈ l) : out = sortN l := sorted_ext h1 (sortN_so l) fun k => (h2 k).trans mem_sortN.symm
theorem sortN_len (l : List Nat) : (sortN l).length ≤ l.length := nodup_len ((sortN_so l).imp fun z => Nat.ne_of_lt z) fun k hk => mem_sortN.mp hk
/-! ### the base of numbers -/
theorem baseOf_exists : ∀ (k : Nat) (l : List Nat), l.length = k → l.Pairwise (· < ·) → ∃ b, BaseOf l b
  | 0, l, h, _ => by
    cases List.length_eq_zero_iff.mp h
    exact ⟨[], baseOf_nil⟩
  | k + 1, l, h, so => by
    have hne : l ≠ [] := fun e => by rw [e] at h; cases h
    have e := List.dropLast_concat_getLast hne
    rw [← e] at so
    have so' := List.pairwise_append.mp so
    obtain ⟨b, hb⟩ := baseOf_exists k l.dropLast (by rw [List.length_dropLast, h]; rfl) so'.1
    by_cases hs : Sm b (l.getLast hne)
    · exact ⟨b, by rw [← e]; exact hb.skip hs⟩
    · exact ⟨_, by rw [← e]; exact hb.more hs fun c hc => so'.2.2 c hc _ List.mem_cons_self⟩
open Classical in
noncomputable def baseL (ns : List Nat) : List Nat := if h : ∃ b, BaseOf ns b then h.choose else []
theorem baseL_ok (ns : List Nat) : BaseOf ns (baseL ns) := by
  obtain ⟨b, hb⟩ := baseOf_exists _ (sortN ns) rfl (sortN_so ns)
  have h : ∃ b, BaseOf ns b := ⟨b, hb.congr fun k => mem_sortN⟩
  unfold baseL
  rw [dif_pos h]
  exact h.choose_spec
theorem BaseOf.sm {ns b : List Nat} (h : BaseOf ns b) (n : Nat) : Sm b n ↔ Sm ns n := ⟨fun z => z.mono h.sub, fun z => z.of h.all⟩
theorem baseL_is {ns b : List Nat} (h : BaseOf ns b) (hp : ∀ a ∈ ns, 1 ≤ a) : baseL ns = b :=
  BaseOf.uniq (baseL_ok ns) h (fun n => by rw [(baseL_ok ns).sm, h.sm]) (fun a ha => hp a ((baseL_ok ns).sub a ha)) fun a ha => hp a (h.sub a ha)
theorem baseL_congr {ns ms : List Nat} (e : ∀ n, Sm ns n ↔ Sm ms n) (hp : ∀ a ∈ ns, 1 ≤ a) (hp' : ∀ a ∈ ms, 1 ≤ a) : baseL ns = baseL ms :=
  BaseOf.uniq (baseL_ok ns) (baseL_ok ms) (fun n => by rw [(baseL_ok ns).sm, (baseL_ok ms).sm, e]) (fun a ha => hp a ((baseL_ok ns).sub a ha)) fun a ha => hp' a ((baseL_ok ms).sub a ha)
theorem sm_baseL (ns : List Nat) (n : Nat) : Sm (baseL ns) n ↔ Sm ns n := (baseL_ok ns).sm n
theorem baseL_mem {ns : List Nat} : ∀ a ∈ baseL ns, a ∈ ns := (baseL_ok ns).sub
theorem baseL_base {ns : List Nat} (hp : ∀ a ∈ ns, 1 ≤ a) (hne : ns ≠ []) (hg : gcdL ns = 1) : Base (baseL ns) := (baseL_ok ns).base hp hne hg
theorem baseL_of {l : List Nat} (b : Base l) : baseL l = l := baseL_is b.of b.pos
theorem baseL_len (ns : List Nat) : (baseL ns).length ≤ ns.length := (baseL_ok ns).len
theorem Base.uniq {l m : List Nat} (b : Base l) (c : Base m) (e : ∀ n, Sm l n ↔ Sm m n) : l = m := by rw [← baseL_of b, ← baseL_of c]; exact baseL_congr e b.pos c.pos
/-! ### the least row, the greatest gap -/
theorem rowN_ex {l : List Nat} (b : Base l) : ∃ row, RowN l (hd l) row := row_any b.hd_pos b.pos b.gcd
open Classical in
noncomputable def rowL (l : List Nat) : List Nat := if h : ∃ row, RowN l (hd l) row then h.choose else []
theorem rowL_ok {l : List Nat} (b : Base l) : RowN l (hd l) (rowL l) := by
  unfold rowL
  rw [dif_pos (rowN_ex b)]
  exact (rowN_ex b).choose_spec
theorem rowL_is {l row : List Nat} (h : RowN l (hd l) row) : rowL l = row := by
  have : ∃ row, RowN l (hd l) row := ⟨row, h⟩
  unfold rowL
  rw [dif_pos this]
  exact G.rowN_uniq this.choose_spec h
open Classical in
noncomputable def topL (l : List Nat) : Int := if h : ∃ g, IsTop l g then h.choose else 0
theorem topL_is {l : List Nat} {g : Int} (h : IsTop l g) : topL l = g := by
  have : ∃ g, IsTop l g := ⟨g, h⟩
  unfold topL
  rw [dif_pos this]
  exact this.choose_spec.uniq h
theorem topL_ok {l : List Nat} (b : Base l) : IsTop l (topL l) := by
  have hr := rowL_ok b
  have hne : rowL l ≠ [] := fun e => by
    have h1 := hr.1
    rw [e] at h1
    have h2 := b.hd_pos
    rw [← h1] at h2
    exact absurd h2 (by decide)
  obtain ⟨h1, h2⟩ := G.maxI_mem (l := (rowL l).map fun (n : Nat) => (n : Int)) (by simpa using hne)
  obtain ⟨v, hv, ev⟩ := List.mem_map.mp h1
  have h := top_row b hr hv fun u hu => by
    have := h2 _ (List.mem_map.mpr ⟨u, hu, rfl⟩)
    omega
  rw [topL_is h]
  exact h
theorem topL_lo {l : List Nat} (b : Base l) : -1 ≤ topL l := (topL_ok b).lo
theorem topL_one {l : List Nat} (b : Base l) : topL l = -1 ↔ l = [1] := by
  have h := topL_ok b
  constructor
  · intro e
    have h1 : Sm l 1 := h.up 1 (by omega)
    have : Base [1] := Base.ofC (by decide +kernel)
    refine b.uniq this fun n => ⟨fun _ => ?_, fun _ => ?_⟩
    · have := Sm.mul n (Sm.one (l := [1]) (a := 1) List.mem_cons_self)
      rwa [Nat.mul_one] at this
    · have := h1.mul n
      rwa [Nat.mul_one] at this
  · rintro rfl
    refine topL_is ⟨fun n _ => ?_, fun n e => by omega, Int.le_refl _⟩
    have := Sm.mul n (Sm.one (l := [1]) (a := 1) List.mem_cons_self)
    rwa [Nat.mul_one] at this
theorem smIb_nat {l : List Nat} {n : Nat} : smIb l n = smb l n := by
  rw [Bool.eq_iff_iff, smIb_iff, smb_iff, smI_nat]
theorem smIb_neg {l : List Nat} {x : Int} (h : x < 0) : smIb l x = false := by
  rw [Bool.eq_false_iff]
  intro z
  have := (smIb_iff.mp z).1
  omega
theorem smIb_up {l : List Nat} (b : Base l) {x : Int} (h : topL l < x) : smIb l x = true := by
  have := (topL_ok b).lo
  obtain ⟨n, rfl⟩ := Int.eq_ofNat_of_zero_le (show 0 ≤ x by omega)
  exact smIb_iff.mpr (smI_nat.mpr ((topL_ok b).up n h))
theorem smIb_top {l : List Nat} (b : Base l) : smIb l (topL l) = false := by
  rw [Bool.eq_false_iff]
  intro z
  obtain ⟨h1, h2⟩ := smIb_iff.mp z
  exact (topL_ok b).no (topL l).toNat (by omega) h2
theorem mem_gaps_le {l : List Nat} (b : Base l) {n : Nat} (h : n ∈ gapsL l) : (n : Int) ≤ topL l ∧ 1 ≤ n := by
  have hn := (mem_gapsL b).mp h
  refine ⟨Int.not_lt.mp fun z => hn ((topL_ok b).up n z), Nat.pos_of_ne_zero fun e => hn (by rw [e]; exact .zero)⟩
theorem gapsL_so (l : List Nat) : (gapsL l).Pairwise (· < ·) := List.Pairwise.filter _ List.pairwise_lt_range
end MS
namespace G
open PySem L2 RT PySem.Spec PyProof.Rows MS
section
variable {K : PySem.W.Frag} {T : List Tb} {C : CC K T} {S : SS} {F : FP} {P : SV → FP → Prop} {te ta tb tc : TE} {tl : TA} {x : SV} {c : Addr}
/-- sorted(set(xs)), frozen -/
theorem tj_sortsetE {w : World} (h : TJ C te S F fun x F1 => ∃ ns, IntsL F1 x ns ∧ ns.length < 4000 ∧ P (lI (sortSet ns)) F1) :
    TJ C (tCB (rSortedSetN w) (tCons (tCB (rSetI K w) (tCons te tNil)) tNil)) S F P :=
  tj_frz (tj_sortset (tj_w h fun x F1 ⟨ns, h1, h2, k⟩ => ⟨ns, h1, h2, fun out p o1 o2 hp => ⟨p, out.map .int, F1, rfl, by rw [List.map_map]; rfl, by rw [sortSet_is o1 o2]; exact k⟩⟩))
theorem BaseB.ne' {l : List Nat} (b : BaseB l) : l ≠ [] := b.b.ne
theorem BaseB.top {l : List Nat} (b : BaseB l) : -1 ≤ topL l ∧ topL l < 60000 := ⟨topL_lo b.b, IsTop.bd b (topL_ok b.b)⟩
theorem BaseB.rowlen {l : List Nat} (b : BaseB l) : (rowL l).length = MS.hd l := (rowL_ok b.b).1
theorem BaseB.rowbd {l : List Nat} (b : BaseB l) : ∀ v ∈ rowL l, v ≤ 60000 := RowN.bd b (rowL_ok b.b)
theorem gaps_bd {l : List Nat} (b : BaseB l) : ∀ n ∈ gapsL l, 1 ≤ n ∧ n < 60000 ∧ (n : Int) ≤ topL l := fun n hn => by
  have h := mem_gaps_le b.b hn
  have := b.top.2
  omega
theorem gaps_len {l : List Nat} (b : BaseB l) : (gapsL l).length ≤ 60000 := by
  have h : (gapsL l).length ≤ (List.range (MS.hd l * MS.lst l)).length := List.length_filter_le _ _
  rw [List.length_range] at h
  have := b.bd
  omega
/-- an instance of Sums -/
noncomputable abbrev oS (c : Addr) (l : List Nat) : SV := oSums c l (rowL l)
def SumsOf (xs : List SV) (k : List Nat → Prop) : Prop := ∃ l, xs = [tN l] ∧ BaseB l ∧ k l
theorem sums_go {l : List Nat} {k : List Nat → Prop} (hb : BaseB l) (h : k l) : SumsOf [tN l] k := ⟨l, rfl, hb, h⟩
theorem tj_sumsE (h : TL C tl S F fun xs F1 => SumsOf xs fun l => P (oS c l) F1) : TJ C (tMake c ((c_sinit c).sp K T) [] E0 tl) S F P :=
  tj_sums fun σ H rs as Q q => h σ H rs as Q fun vs H' xs F' e a r ⟨l, ex, hb, k⟩ => q vs H' xs F' e a r ⟨l, ex, hb, fun row hr => by rw [← rowL_is hr]; exact k⟩
/-- a call whose owned lists are lent -/
theorem cl_fR {α : Type} {c : CF α} (a : α) {xs : List SV} (ls : List Addr) (ln : Lent F ls xs (c.enc a)) (hl : xs.length = c.n) (hn : (c.enc a).length = c.n) (hp : c.pre a) (hf : Flat (c.val a)) (k : P (c.val a) F) : CL C (c.sp K T) xs F P := fun E H vs as r Q q =>
  ⟨(rvs_len r).symm.trans hl, a, cl_ctR (c := c.one a) ls ln hl ⟨rfl, hp⟩ (fun y F' ⟨ef, ey⟩ => by subst ef ey; exact ⟨hf, fun q hq => (nomatch hq), fun _ => k⟩) E H vs as r Q q⟩
/-! ### the contracts of the defs about sums -/
noncomputable abbrev F_least_row : CF (List Nat) := cf1 1 (fun l => [tN l]) (fun l => BaseB l) (fun l => tN (rowL l))
theorem i_least_row : ∀ vs H Q E, F_least_row.sp K T vs H Q E → c_least.sp K T vs H Q E := cf_ct rfl (fun l h => ⟨l, rfl, h⟩) fun l y F h ⟨ef, row, ey, hr⟩ => ⟨ef, by rw [ey, ← rowL_is (hr l rfl)]⟩
noncomputable abbrev F_has (c : Addr) : CF (List Nat × Int) := cf2 2 (fun (l : List Nat) (n : Int) => [oS c l, dI n]) (fun l n => BaseB l) (fun l n => dB (smIb l n))
theorem i_has : ∀ vs H Q E, (F_has c).sp K T vs H Q E → (c_has c).sp K T vs H Q E := cf_ct rfl (fun a h => ⟨a.1, _, a.2, rfl, h, rowL_ok h.b⟩) fun a y F h ⟨ef, b, ey, hb⟩ => ⟨ef, by
  have : b = smIb a.1 a.2 := by rw [Bool.eq_iff_iff, hb _ _ _ rfl, smIb_iff]; rfl
  rw [ey, this]⟩
noncomputable abbrev F_ggap (c : Addr) : CF (List Nat) := cf1 1 (fun l => [oS c l]) (fun l => BaseB l) (fun l => dI (topL l))
theorem i_ggap : ∀ vs H Q E, (F_ggap c).sp K T vs H Q E → (c_ggap c).sp K T vs H Q E := cf_ct rfl (fun l h => ⟨l, _, rfl, h, rowL_ok h.b⟩) fun l y F h ⟨ef, g, ey, hg⟩ => ⟨ef, by rw [ey, ← topL_is (hg _ _ rfl)]⟩
noncomputable abbrev F_sgaps (c : Addr) : CF (List Nat) := cf1 1 (fun l => [oS c l]) (fun l => BaseB l) (fun l => lN (gapsL l))
theorem i_sgaps : ∀ vs H Q E, (F_sgaps c).sp K T vs H Q E → (c_sgaps c).sp K T vs H Q E := cf_ct rfl (fun l h => ⟨l, _, rfl, h, rowL_ok h.b⟩) fun l y F h ⟨ef, g, ey, hg⟩ => ⟨ef, by rw [ey, hg _ _ rfl]⟩
noncomputable abbrev F_gaps : CF (List Nat) := cf1 1 (fun l => [tN l]) (fun l => BaseB l) (fun l => lN (gapsL l))
theorem i_gaps : ∀ vs H Q E, F_gaps.sp K T vs H Q E → c_gaps.sp K T vs H Q E := cf_ct rfl (fun l h => ⟨l, rfl, h⟩) fun l y F h ⟨ef, g, ey, hg⟩ => ⟨ef, by rw [ey, hg _ rfl]⟩
theorem i_lgaps : ∀ vs H Q E, F_gaps.sp K T vs H Q E → c_lgaps.sp K T vs H Q E := cf_ct rfl (fun l h => ⟨l, rfl, h⟩) fun l y F h ⟨ef, g, ey, hg⟩ => ⟨ef, by rw [ey, hg _ rfl]⟩
noncomputable abbrev F_genus : CF (List Nat) := cf1 1 (fun l => [tN l]) (fun l => BaseB l) (fun l => dI ((gapsL l).length : Nat))
theorem i_genus : ∀ vs H Q E, F_genus.sp K T vs H Q E → c_genus.sp K T vs H Q E := cf_ct rfl (fun l h => ⟨l, rfl, h⟩) fun l y F h ⟨ef, g, ey, hg⟩ => ⟨ef, by rw [ey, hg _ rfl]⟩
noncomputable abbrev F_gg : CF (List Nat) := cf1 1 (fun l => [tN l]) (fun l => BaseB l) (fun l => dI (topL l))
theorem i_gg : ∀ vs H Q E, F_gg.sp K T vs H Q E → c_gg.sp K T vs H Q E := cf_ct rfl (fun l h => ⟨l, rfl, h⟩) fun l y F h ⟨ef, g, ey, hg⟩ => ⟨ef, by rw [ey, ← topL_is (hg _ rfl)]⟩
theorem i_ltop : ∀ vs H Q E, F_gg.sp K T vs H Q E → c_ltop.sp K T vs H Q E := cf_ct rfl (fun l h => ⟨l, rfl, h⟩) fun l y F h ⟨ef, g, ey, hg⟩ => ⟨ef, by rw [ey, ← topL_is (hg _ rfl)]⟩
abbrev F_bound : CF (List Nat) := cf1 1 (fun l => [tN l]) (fun l => BaseB l) (fun l => dI ((MS.hd l * MS.lst l + MS.lst l : Nat) : Int))
theorem i_bound : ∀ vs H Q E, F_bound.sp K T vs H Q E → c_bound.sp K T vs H Q E := cf_ct rfl (fun l h => ⟨l, rfl, h⟩) fun l y F h ⟨ef, g, ey, hg⟩ => ⟨ef, by rw [ey, hg _ rfl]⟩
/-- a table of sums that is right for all numbers -/
noncomputable abbrev tbS (l : List Nat) : SV := .d (.list (tabL l (2 * (MS.hd l * MS.lst l + MS.lst l))))
noncomputable abbrev F_table : CF (List Nat) := cf1 1 (fun l => [tN l]) (fun l => BaseB l) (fun l => tbS l)
theorem i_table : ∀ vs H Q E, F_table.sp K T vs H Q E → c_table.sp K T vs H Q E := cf_ct rfl (fun l h => ⟨l, rfl, h⟩) fun l y F h ⟨ef, g, ey, hg⟩ => ⟨ef, by rw [ey, hg _ rfl]⟩
theorem BaseB.big {l : List Nat} (h : BaseB l) : ∀ n, 2 * (MS.hd l * MS.lst l + MS.lst l) < n → Sm l n := fun n hn => h.b.big (by omega)
noncomputable abbrev F_lhas : CF (List Nat × Int) := cf2 2 (fun (l : List Nat) (n : Int) => [tbS l, dI n]) (fun l n => BaseB l) (fun l n => dB (smIb l n))
theorem i_lhas : ∀ vs H Q E, F_lhas.sp K T vs H Q E → c_lhas.sp K T vs H Q E := cf_ct rfl (fun a h => ⟨a.1, _, a.2, rfl, BaseB.big h⟩) fun a y F h ⟨ef, b, ey, hb⟩ => ⟨ef, by
  have : b = smIb a.1 a.2 := by rw [Bool.eq_iff_iff, hb _ _ _ rfl (BaseB.big h), smIb_iff]; rfl
  rw [ey, this]⟩
theorem i_lrow : ∀ vs H Q E, F_least_row.sp K T vs H Q E → c_lrow.sp K T vs H Q E := cf_ct rfl (fun l h => ⟨l, rfl, h⟩) fun l y F h ⟨ef, row, ey, hr⟩ => ⟨ef, by rw [ey, ← rowL_is (hr l rfl)]⟩
abbrev F_lgcd : CF (SV × List Nat) := cf2 1 (fun (x : SV) (_ : List Nat) => [x]) (fun x l => IntsD x l ∧ ∀ a ∈ l, a ≤ 1000000) (fun _ l => dI (gcdL l : Nat))
theorem i_lgcd : ∀ vs H Q E, F_lgcd.sp K T vs H Q E → c_lgcd.sp K T vs H Q E := cf_ct rfl (fun a h => ⟨a.1, a.2, rfl, h.1, h.2⟩) fun a y F h ⟨ef, g, ey, hg⟩ => ⟨ef, by rw [ey, hg _ _ rfl h.1]⟩
noncomputable abbrev F_lbaseof : CF (SV × List Nat) := cf2 1 (fun (x : SV) (_ : List Nat) => [x]) (fun x l => IntsD x l ∧ (∀ a ∈ l, 1 ≤ a ∧ a ≤ 100000) ∧ l.length < 4000) (fun _ l => tN (baseL l))
theorem i_lbaseof : ∀ vs H Q E, F_lbaseof.sp K T vs H Q E → c_baseof.sp K T vs H Q E := cf_ct rfl (fun a h => ⟨a.1, a.2, rfl, h.1, h.2.1, h.2.2⟩) fun a y F h ⟨ef, g, ey, hg⟩ => ⟨ef, by rw [ey, ← baseL_is (hg _ _ rfl h.1) fun a ha => (h.2.1 a ha).1]⟩
noncomputable abbrev F_ismem : CF (List Nat × Int) := cf2 2 (fun (l : List Nat) (n : Int) => [tN l, dI n]) (fun l n => BaseB l) (fun l n => dB (smIb l n))
theorem i_ismem : ∀ vs H Q E, F_ismem.sp K T vs H Q E → c_ismem.sp K T vs H Q E := cf_ct rfl (fun a h => ⟨a.1, a.2, rfl, h⟩) fun a y F h ⟨ef, b, ey, hb⟩ => ⟨ef, by rw [ey, hb _ _ rfl]⟩
/-! ### numbers reached by a row -/
def optD : Option Nat → PyData
  | none => .none
  | some v => .int (v : Nat)
abbrev lO (row : MS.Row) : SV := .d (.list (row.map optD))
theorem oD_optD (row : MS.Row) : row.map oD = (row.map optD).map .d := by
  rw [List.map_map]
  apply List.map_congr_left
  intro o _
  cases o <;> rfl
def reachB (row : MS.Row) (n : Nat) : Bool := match row.getD (n % row.length) none with
  | none => false
  | some v => decide (v ≤ n)
theorem reachB_is {l : List Nat} {m : Nat} {row : MS.Row} (h : IsRow l m row) (hm : m ∈ l) (h0 : 0 < m) (n : Nat) : reachB row n = smb l n := by
  have hl := h.1
  have hlt := Nat.mod_lt n h0
  unfold reachB
  rw [hl]
  have := h.2 (n % m) hlt
  rw [Bool.eq_iff_iff, smb_iff]
  rcases this with ⟨v, e, hs, hv, hmin⟩ | ⟨e, hno⟩
  · rw [List.getD_eq_getElem?_getD, e]
    constructor
    · intro z
      exact sm_up hm hs (of_decide_eq_true z) hv
    · intro z
      exact decide_eq_true (hmin n z rfl)
  · rw [List.getD_eq_getElem?_getD, e]
    exact ⟨(fun z => nomatch z), fun z => absurd rfl (hno n z)⟩
end
end G

namespace MS
/-- the members are distinct by the first one -/
theorem BaseOf.len_hd {ns l : List Nat} (h : BaseOf ns l) (hp : ∀ a ∈ l, 1 ≤ a) (hne : l ≠ []) : l.length ≤ hd l := by
  have h0 : 0 < hd l := hp _ (hd_mem hne)
  have nd : (l.map (· % hd l)).Nodup := by
    rw [List.nodup_iff_pairwise_ne, List.pairwise_map, List.pairwise_iff_getElem]
    intro i j hi hj hij e
    have hlt := List.pairwise_iff_getElem.mp h.so i j hi hj hij
    refine h.min j l[j] (List.getElem?_eq_getElem hj) ?_
    have h1 : hd l ∈ l.take j := by
      cases l with
      | nil => exact absurd rfl hne
      | cons a t =>
        cases j with
        | zero => omega
        | succ j => exact List.mem_cons_self
    have h2 : l[i] ∈ l.take j := by
      rw [List.mem_take_iff_getElem]
      exact ⟨i, by omega, rfl⟩
    exact sm_up h1 (.one h2) (Nat.le_of_lt hlt) e
  have := nodup_len nd (D := List.range (hd l)) fun x hx => by
    obtain ⟨a, _, rfl⟩ := List.mem_map.mp hx
    exact List.mem_range.mpr (Nat.mod_lt _ h0)
  simpa using this
theorem so_hd {l : List Nat} (h : l.Pairwise (· < ·)) : ∀ b ∈ l, hd l ≤ b := fun b hb => by
  cases l with
  | nil => cases hb
  | cons c r =>
    rcases List.mem_cons.mp hb with rfl | hb
    · exact Nat.le_refl _
    · exact Nat.le_of_lt ((List.pairwise_cons.mp h).1 _ hb)
theorem foldl_gcd : ∀ (l : List Nat) (g : Nat), l.foldl Nat.gcd g = Nat.gcd g (gcdL l)
  | [], g => (Nat.gcd_zero_right g).symm
  | a :: l, g => by
    rw [List.foldl_cons, foldl_gcd l, Nat.gcd_assoc]
    rfl
theorem baseL_pos {ns : List Nat} (hp : ∀ a ∈ ns, 1 ≤ a) : ∀ a ∈ baseL ns, 1 ≤ a := fun a ha => hp a (baseL_mem a ha)
/-- strictly ascending, place by place -/
def ascB (l : List Int) : Bool := (List.range (l.length - 1)).all fun k => decide (l.getD k 0 < l.getD (k + 1) 0)
theorem asc_step {l : List Int} (h : ∀ k, k + 1 < l.length → l.getD k 0 < l.getD (k + 1) 0) : l.Pairwise (· < ·) := by
  rw [List.pairwise_iff_getElem]
  intro i j hi hj hij
  have key : ∀ n, i + n + 1 < l.length → l.getD i 0 < l.getD (i + n + 1) 0 := by
    intro n
    induction n with
    | zero => exact fun hn => h i hn
    | succ n ih => exact fun hn => Int.lt_trans (ih (by omega)) (h (i + n + 1) hn)
  have := key (j - i - 1) (by omega)
  rw [show i + (j - i - 1) + 1 = j by omega, List.getD_eq_getElem?_getD, List.getD_eq_getElem?_getD, List.getElem?_eq_getElem hi, List.getElem?_eq_getElem hj] at this
  exact this
theorem ascB_iff {l : List Int} : ascB l = true ↔ l.Pairwise (· < ·) := by
  unfold ascB
  rw [List.all_eq_true]
  constructor
  · intro h
    exact asc_step fun k hk => of_decide_eq_true (h k (List.mem_range.mpr (by omega)))
  · intro h k hk
    have hk := List.mem_range.mp hk
    have h1 : k < l.length := by omega
    have h2 : k + 1 < l.length := by omega
    refine decide_eq_true ?_
    rw [List.getD_eq_getElem?_getD, List.getD_eq_getElem?_getD, List.getElem?_eq_getElem h1, List.getElem?_eq_getElem h2]
    exact List.pairwise_iff_getElem.mp h k (k + 1) h1 h2 (by omega)
theorem asc_cast {l : List Nat} : (l.map fun (n : Nat) => (n : Int)).Pairwise (· < ·) ↔ l.Pairwise (· < ·) := by
  rw [List.pairwise_map]
  constructor
  · exact fun h => h.imp fun z => by omega
  · exact fun h => h.imp fun z => by omega
end MS
namespace G
open PySem L2 RT PySem.Spec PyProof.Rows MS
/-! ### bases judged -/
theorem baseB_iff {l : List Nat} : BaseB l ↔ (∀ a ∈ l, 1 ≤ a ∧ a ≤ 1000) ∧ l ≠ [] ∧ l.Pairwise (· < ·) ∧ MS.hd l ≤ 60 ∧ gcdL l = 1 ∧ baseL l = l := by
  constructor
  · intro h
    exact ⟨fun a ha => ⟨h.b.pos a ha, h.le a ha⟩, h.b.ne, h.b.so, h.hd, h.b.gcd, baseL_of h.b⟩
  · rintro ⟨h1, h2, h3, h4, h5, h6⟩
    have hb := baseL_base (fun a ha => (h1 a ha).1) h2 h5
    have hl := (baseL_ok l).len_hd (baseL_pos fun a ha => (h1 a ha).1) (by rw [h6]; exact h2)
    rw [h6] at hb hl
    exact ⟨hb, h4, fun a ha => (h1 a ha).2, Nat.le_trans hl h4⟩
open Classical in
noncomputable def isBaseB (d : PyData) : Bool := decide (∃ l, d = .tuple (pN l) ∧ BaseB l)
theorem isBaseB_iff {d : PyData} : isBaseB d = true ↔ ∃ l, d = .tuple (pN l) ∧ BaseB l := by unfold isBaseB; exact @decide_eq_true_iff _ (Classical.propDecidable _)
theorem isBaseB_tN {l : List Nat} : isBaseB (.tuple (pN l)) = true ↔ BaseB l := by
  rw [isBaseB_iff]
  constructor
  · rintro ⟨l', e, h⟩
    have := pN_inj (show pN l = pN l' by simpa using e)
    rwa [this]
  · exact fun h => ⟨l, rfl, h⟩
theorem isBaseB_of {l : List Nat} (h : BaseB l) : isBaseB (.tuple (pN l)) = true := isBaseB_tN.mpr h
theorem isBaseB_no {d : PyData} (h : ∀ l, d = .tuple (pN l) → ¬ BaseB l) : isBaseB d = false := by
  rw [Bool.eq_false_iff]
  intro z
  obtain ⟨l, e, hb⟩ := isBaseB_iff.mp z
  exact h l e hb
def tupOf : PyData → List PyData
  | .tuple ds => ds
  | _ => []
theorem isI_eq {d : PyData} (h : isIntD d = true) : SV.d d = dI (intOf d) := by
  obtain ⟨i, rfl⟩ := isIntD_iff.mp h
  rfl
theorem isT_eq {d : PyData} (h : isTup d = true) : SV.d d = .d (.tuple (tupOf d)) := by
  obtain ⟨ds, rfl⟩ := isTup_ex h
  rfl
def withinD (d : PyData) (lo hi : Int) : Bool := isIntD d && (decide (lo ≤ intOf d) && decide (intOf d ≤ hi))
def rowWithinD (v : PyData) (lo hi : Int) : Bool := isTup v && (tupOf v).all fun d => withinD d lo hi
theorem withinD_iff {d : PyData} {lo hi : Int} : withinD d lo hi = true ↔ ∃ i : Int, d = .int i ∧ lo ≤ i ∧ i ≤ hi := by
  unfold withinD
  rw [Bool.and_eq_true, Bool.and_eq_true, decide_eq_true_iff, decide_eq_true_iff, isIntD_iff]
  constructor
  · rintro ⟨⟨i, rfl⟩, h⟩
    exact ⟨i, rfl, h⟩
  · rintro ⟨i, rfl, h⟩
    exact ⟨⟨i, rfl⟩, h⟩
theorem rowWithinD_iff {v : PyData} {lo hi : Int} : rowWithinD v lo hi = true ↔ ∃ is : List Int, v = .tuple (is.map .int) ∧ ∀ i ∈ is, lo ≤ i ∧ i ≤ hi := by
  unfold rowWithinD
  rw [Bool.and_eq_true, List.all_eq_true]
  constructor
  · rintro ⟨h1, h2⟩
    obtain ⟨ds, rfl⟩ := isTup_ex h1
    have h2 : ∀ d ∈ ds, withinD d lo hi = true := h2
    obtain ⟨is, rfl⟩ := all_int (ds := ds) (List.all_eq_true.mpr fun d hd => by
      obtain ⟨i, rfl, _⟩ := withinD_iff.mp (h2 d hd)
      rfl)
    refine ⟨is, rfl, fun i hi => ?_⟩
    obtain ⟨j, e, h⟩ := withinD_iff.mp (h2 _ (List.mem_map.mpr ⟨i, hi, rfl⟩))
    cases e
    exact h
  · rintro ⟨is, rfl, h⟩
    refine ⟨rfl, fun d hd => ?_⟩
    obtain ⟨i, hi, rfl⟩ := List.mem_map.mp hd
    exact withinD_iff.mpr ⟨i, rfl, h i hi⟩
theorem ints_nats {is : List Int} (h : ∀ i ∈ is, 0 ≤ i) : ∃ l : List Nat, is = l.map fun (n : Nat) => (n : Int) := by
  refine ⟨is.map Int.toNat, ?_⟩
  rw [List.map_map]
  conv => lhs; rw [← List.map_id is]
  apply List.map_congr_left
  intro i hi
  have := h i hi
  show i = ((i.toNat : Nat) : Int)
  omega
theorem rowWithinD_nats {v : PyData} {lo hi : Nat} : rowWithinD v lo hi = true ↔ ∃ l : List Nat, v = .tuple (pN l) ∧ ∀ a ∈ l, lo ≤ a ∧ a ≤ hi := by
  rw [rowWithinD_iff]
  constructor
  · rintro ⟨is, rfl, h⟩
    obtain ⟨l, rfl⟩ := ints_nats (is := is) fun i hi => by have := h i hi; omega
    refine ⟨l, by rw [pN_ints], fun a ha => ?_⟩
    have := h a (List.mem_map.mpr ⟨a, ha, rfl⟩)
    omega
  · rintro ⟨l, rfl, h⟩
    refine ⟨_, by rw [pN_ints], fun i hi => ?_⟩
    obtain ⟨a, ha, rfl⟩ := List.mem_map.mp hi
    have := h a ha
    omega
abbrev IntsT (x : SV) (l : List Int) : Prop := x = tI l
theorem intsT_N (l : List Nat) : IntsT (tN l) (l.map fun (n : Nat) => (n : Int)) := by
  show SV.d _ = SV.d _
  rw [pN_ints]
theorem pe_gconst {X : Cx} {x : Str} {v : V} {pos : Pos} (hg : Gl X x) (hm : ∃ u, X.mg x = some u ∧ RelV v u) (hd : (x == ("__debug__" : Str)) = false := by decide) : PE X (.Name x pos) (tC v) := by
  obtain ⟨u, h, r⟩ := hm
  exact pe_glob hg h r hd
section
variable {K : PySem.W.Frag} {T : List Tb}
abbrev F_reached : CF (MS.Row × Nat) := cf2 2 (fun (row : MS.Row) (n : Nat) => [lO row, dI (n : Nat)]) (fun row _ => 0 < row.length ∧ row.length ≤ 100000) (fun row n => dB (reachB row n))
noncomputable abbrev F_baseof : CF (SV × List Nat) := cf2 1 (fun (x : SV) (_ : List Nat) => [x]) (fun x l => IntsD x l ∧ (∀ a ∈ l, 1 ≤ a ∧ a ≤ 1000000) ∧ (∃ a ∈ l, a < 64) ∧ l.length < 4000) (fun _ l => tN (baseL l))
abbrev F_gcdof : CF (SV × List Nat) := cf2 1 (fun (x : SV) (_ : List Nat) => [x]) (fun x l => IntsD x l) (fun _ l => dI (gcdL l : Nat))
noncomputable abbrev F_isbase : CF PyData := cf1 1 (fun d => [.d d]) (fun d => ∃ n, n ≤ 60 ∧ OkD n d) (fun d => dB (isBaseB d))
abbrev F_within : CF (PyData × Int × Int) := cf3 3 (fun d lo hi => [.d d, dI lo, dI hi]) (fun _ _ _ => True) (fun d lo hi => dB (withinD d lo hi))
abbrev F_rowwithin : CF (PyData × Int × Int) := cf3 3 (fun d lo hi => [.d d, dI lo, dI hi]) (fun _ _ _ => True) (fun d lo hi => dB (rowWithinD d lo hi))
abbrev F_asc : CF (SV × List Int) := cf2 1 (fun (x : SV) (_ : List Int) => [x]) (fun x l => IntsT x l ∧ l.length < 16000000) (fun _ l => dB (ascB l))
end
end G

namespace G
open PySem L2 RT PySem.Spec PyProof.Rows MS
/-! ### odd values made of small ints -/
def Sml (d : PyData) : Prop := ∃ i : Int, d = .int i ∧ i.natAbs < 2 ^ 60
theorem sml_ints : ∀ {ds : List PyData}, (∀ d ∈ ds, Sml d) → ∃ ms : List Int, ds = ms.map .int ∧ ∀ i ∈ ms, i.natAbs < 2 ^ 60
  | [], _ => ⟨[], rfl, fun _ h => nomatch h⟩
  | d :: ds, h => by
    obtain ⟨i, rfl, hi⟩ := h d List.mem_cons_self
    obtain ⟨ms, rfl, hm⟩ := sml_ints fun d hd => h d (List.mem_cons_of_mem _ hd)
    exact ⟨i :: ms, rfl, fun j hj => by
      rcases List.mem_cons.mp hj with rfl | hj
      · exact hi
      · exact hm j hj⟩
theorem odd_t {ds : List PyData} (h : ∀ d ∈ ds, Sml d) (hl : ds.length ≤ 1000) : Odd 50 1000000 (.tuple ds) := by
  obtain ⟨ms, rfl, hm⟩ := sml_ints h
  exact .inl ((nice_ints hm (by simpa using hl)).mono (by decide) (by decide))
theorem odd_l {ds : List PyData} (h : ∀ d ∈ ds, Sml d) (hl : ds.length ≤ 1000) : Odd 50 1000000 (.list ds) := by
  obtain ⟨ms, rfl, hm⟩ := sml_ints h
  obtain ⟨h1, h2⟩ := ints_tc (n := 0) hm
  have hl : ms.length ≤ 1000 := by simpa using hl
  exact .inl ((nice_lst (n := 0) (t := 70003) (by rw [List.length_map]; omega) h1 (by omega)).mono (by decide) (by decide))
theorem sml_pN {l : List Nat} {c : Nat} (h : ∀ a ∈ l, a ≤ c) (hc : c < 2 ^ 60) : ∀ d ∈ pN l, Sml d := fun d hd => by
  obtain ⟨a, ha, rfl⟩ := List.mem_map.mp hd
  have := h a ha
  exact ⟨a, rfl, by omega⟩
theorem sml_i {i : Int} (h : i.natAbs < 2 ^ 60) : Sml (.int i) := ⟨i, rfl, h⟩
theorem sml_app {ds es : List PyData} (h : ∀ d ∈ ds, Sml d) (g : ∀ d ∈ es, Sml d) : ∀ d ∈ ds ++ es, Sml d := fun d hd => (List.mem_append.mp hd).elim (h d) (g d)
theorem sml_cons {d : PyData} {ds : List PyData} (h : Sml d) (g : ∀ d ∈ ds, Sml d) : ∀ e ∈ d :: ds, Sml e := fun e he => by
  rcases List.mem_cons.mp he with rfl | he
  · exact h
  · exact g e he
theorem sml_nil : ∀ d ∈ ([] : List PyData), Sml d := fun _ h => nomatch h
theorem sml_sub {ds es : List PyData} (s : es.Sublist ds) (h : ∀ d ∈ ds, Sml d) : ∀ d ∈ es, Sml d := fun d hd => h d (s.subset hd)
theorem okT {n : Nat} {l : List Nat} (h : l.length < 16000000) : Ok (n + 1) (.tuple (pN l)) := .tup (by rw [List.length_map]; exact h) okN
theorem okLN {n : Nat} {l : List Nat} (h : l.length < 16000000) : Ok (n + 1) (.list (pN l)) := .lst (by rw [List.length_map]; exact h) okN
section
variable {K : PySem.W.Frag} {T : List Tb} {C : CC K T} {S : SS} {F : FP} {P : SV → FP → Prop} {te : TE} {tlo thi : TO}
/-- e[::-1], slices: told by what is cut -/
def BackOf (x : SV) (k : SV → Prop) : Prop := (∃ ds, x = .d (.tuple ds) ∧ k (.d (.tuple ds.reverse))) ∨ (∃ ds, x = .d (.list ds) ∧ k (.d (.list ds.reverse)))
theorem back_t {ds : List PyData} {k : SV → Prop} (h : k (.d (.tuple ds.reverse))) : BackOf (.d (.tuple ds)) k := .inl ⟨_, rfl, h⟩
theorem back_l {ds : List PyData} {k : SV → Prop} (h : k (.d (.list ds.reverse))) : BackOf (.d (.list ds)) k := .inr ⟨_, rfl, h⟩
theorem tj_backE (h : TJ C te S F fun x F1 => BackOf x fun y => P y F1) : TJ C (tBack K te) S F P := tj_back h
def CutOf (x : SV) (lo hi : Option Int) (k : SV → Prop) : Prop := (∃ ds, x = .d (.list ds) ∧ k (.d (.list (cutD ds lo hi)))) ∨ (∃ ds, x = .d (.tuple ds) ∧ k (.d (.tuple (cutD ds lo hi))))
theorem cut_t {ds : List PyData} {lo hi : Option Int} {k : SV → Prop} (h : k (.d (.tuple (cutD ds lo hi)))) : CutOf (.d (.tuple ds)) lo hi k := .inr ⟨_, rfl, h⟩
theorem cut_l {ds : List PyData} {lo hi : Option Int} {k : SV → Prop} (h : k (.d (.list (cutD ds lo hi)))) : CutOf (.d (.list ds)) lo hi k := .inl ⟨_, rfl, h⟩
theorem tj_slE (h : TJ C te S F fun x F1 => TOJ C tlo S F1 fun lo F2 => TOJ C thi S F2 fun hi F3 => CutOf x lo hi fun y => P y F3) : TJ C (tSl (rSlB K) te tlo thi) S F P := tj_sl h
def PartOf (x : SV) (k : Option Int → Prop) : Prop := ∃ i, x = dI i ∧ k (some i)
theorem part_i {i : Int} {k : Option Int → Prop} (h : k (some i)) : PartOf (dI i) k := ⟨i, rfl, h⟩
theorem to_someE {PO : Option Int → FP → Prop} (h : TJ C te S F fun x F1 => PartOf x fun o => PO o F1) : TOJ C (tPart te) S F PO := to_some h
theorem lstD_go {F2 : FP} {xs : List SV} {ds : List PyData} {Q : List PyData → FP → Prop} (fz : FrzAll F xs F2 ds) (hz : xs.length ≤ 1000) (h : Q ds F2) : ∃ ds F2, FrzAll F xs F2 ds ∧ xs.length ≤ 1000 ∧ Q ds F2 := ⟨ds, F2, fz, hz, h⟩
end
end G

namespace G
open PySem L2 RT PySem.Spec PyProof.Rows NdefX
open LamX (CodeO TabS)
/-! ### function values: a lambda with captured names, handed to a def that calls it -/
/-- a lambda's words, the cells that it captured, its code object -/
structure LF where
  qual : Str
  params : Arguments
  body : Expr
  scope : Scope
  cl : List (Str × Addr)
  c : Addr
abbrev LF.nf (L : LF) : NF := ⟨"<lambda>", L.qual, L.params, [], L.scope, L.cl, L.c⟩
/-- the object at f is the lambda L -/
def LnO (f : Addr) (L : LF) : HO := .ext fun h => ∃ (pm ctv : Value), h.get? f = some (PySem.W.kla_obj "<lambda>" L.qual L.params L.body L.scope L.cl pm L.c ctv)
theorem lnO_at {P : Program} {w : World} {H : Hp} {h : Heap} {f : Addr} {L : LF} (hok : HOk P w H h) (e : H f = some (LnO f L)) : ∃ (pm ctv : Value), h.get? f = some (PySem.W.kla_obj "<lambda>" L.qual L.params L.body L.scope L.cl pm L.c ctv) := by
  obtain ⟨z, _, _⟩ := hok f _ e
  exact z
/-- what the lambda at f promises: sp ws, ws what its captured cells hold -/
structure LOk (P : Program) (w : World) (K : PySem.W.Frag) (mg : Str → Option Value) (base : Heap) (k : Nat) (f : Addr) (L : LF) (n : Nat) (fr : List Str) (sp : List (Option V) → Sp) : Prop where
  run : ∀ (A : Around) (outer : List Env) (s : Shared) (H : Hp) (us : List Value) (vs : List V) (ws : List (Option V)) (Q : VK), Room k A → Env0 P w K mg base A outer s H → H f = some (LnO f L) → H L.c = some (CodeO L.c L.qual) →
    CellsAt L.cl fr ws s.heap H → Vals vs us → vs.length = n → sp ws vs H Q E0 → codeAny (model P w) A (.call (.ref f) ⟨us, []⟩) (CR CX0 outer P w H s Q E0) s
section
variable {P : Program} {w : World} {K : PySem.W.Frag} {mg : Str → Option Value} {base : Heap} {N ps fr : List Str} {L : LF} {f : Addr} {k : Nat} {sp sp' : List (Option V) → Sp}
theorem LOk.mono {j : Nat} (o : LOk P w K mg base j f L n fr sp) (h : j ≤ k) : LOk P w K mg base k f L n fr sp := ⟨fun A outer s H us vs ws Q hr => o.run A outer s H us vs ws Q (hr.mono h)⟩
theorem lok_of (S : NScope N ps fr L.scope) (hb : ∀ (pm ctv : Value) (us : List Value), us.length = ps.length → bindArgs (PySem.W.kla_fn "<lambda>" L.qual L.params L.body L.scope L.cl pm (.ref L.c) ctv) ⟨us, []⟩ = pure (ps.zip us))
    (hbody : ∀ (A : Around) (outer : List Env) (s : Shared) (H : Hp) (vs : List V) (ws : List (Option V)) (Q : VK), Room k (A.deeper (envF L.nf f s.heap.objs.size)) → vs.length = ps.length → ws.length = fr.length → sp ws vs H Q E0 →
      ∃ te, PE (ncx CX0 P w K mg base N L.nf f A outer s H E0) L.body te ∧ te (startF N vs ws) H Q) : LOk P w K mg base (k + 1) f L ps.length fr sp := by
  refine ⟨fun A outer s H us vs ws Q hr e0 hf hc C r hl hsp => ?_⟩
  have lim : s.heap.NoLimit := e0.mod.nolimit.keeps fun b o e => (e0.bs b o e).1
  obtain ⟨pm, ctv, ho⟩ := lnO_at e0.hok hf
  refine PySem.W.kla_callFunE hr.depth ho rfl S.co S.gen rfl (codeO_at e0.hok hc) ?_
  rw [hb pm ctv us (by rw [← r.length]; exact hl)]
  refine wpAny_pure (wpAny_newFunctionEnv S.nocell (fun ⟨n, _⟩ hy => S.par n (List.of_mem_zip hy).1) (fun h₁ hns hsb => ⟨lim.fresh _ hsb, ?_⟩) S.kind)
  show codeAny _ _ (.expr L.body (envF L.nf f s.heap.objs.size)) _ _
  have kp : ∀ b o, s.heap.get? b = some o → h₁.get? b = some o := fun b o e => hsb.extBut b o (Nat.ne_of_lt (Heap.lt_size e)) (Heap.get?_push_of_some _ e)
  obtain ⟨t, ht, hq⟩ := hbody A outer s H vs ws Q (hr.deeper _) hl C.len hsp
  have I : Inv (ncx CX0 P w K mg base N L.nf f A outer s H E0) [] (startF N vs ws) H { s with heap := h₁, toks := s.toks + (ps.zip us).length } := inv_startN (F := L.nf) S hr.hd e0 hl r C hns kp
  refine PySem.W.kla_codeExpr (wpAny_mono (ht.run [] _ (startF N vs ws) H Q I hq) (fun v s' hs => ?_) fun e s' hs => hs)
  obtain ⟨w', H', J, rv, q⟩ := hs
  exact ⟨w', H', J.os, J.bare, J.base, J.hok, rv, q⟩
end
/-! ### captured cells, told while the callee runs -/
def CellHO (c : Addr) (o : Obj) : HO := .frz o (.ext fun h => h.get? c = some o)
def plusC (cs : Addr → Option Obj) (H : Hp) : Hp := fun a => match cs a with
  | some o => some (CellHO a o)
  | none => H a
def minusC (cs : Addr → Option Obj) (H : Hp) : Hp := fun a => match cs a with
  | some _ => none
  | none => H a
theorem plus_some {cs : Addr → Option Obj} {H : Hp} {a : Addr} {o : Obj} (h : cs a = some o) : plusC cs H a = some (CellHO a o) := by unfold plusC; rw [h]
theorem plus_none {cs : Addr → Option Obj} {H : Hp} {a : Addr} (h : cs a = none) : plusC cs H a = H a := by unfold plusC; rw [h]
theorem minus_some {cs : Addr → Option Obj} {H : Hp} {a : Addr} {o : Obj} (h : cs a = some o) : minusC cs H a = none := by unfold minusC; rw [h]
theorem minus_none {cs : Addr → Option Obj} {H : Hp} {a : Addr} (h : cs a = none) : minusC cs H a = H a := by unfold minusC; rw [h]
theorem minus_no {cs : Addr → Option Obj} {H : Hp} {a : Addr} (h : H a = none) : minusC cs H a = none := by
  unfold minusC
  split
  · rfl
  · exact h
structure CapsAt (cl : List (Str × Addr)) (fr : List Str) (ws : List (Option V)) (cs : Addr → Option Obj) : Prop where
  len : ws.length = fr.length
  all : ∀ y c, cl.lookup y = some c → ∃ o v, cs c = some o ∧ o.data = .cell v
  inj : ∀ x y c, cl.lookup x = some c → cl.lookup y = some c → x = y
  has : ∀ (i : Nat) (y : Str), fr[i]? = some y → ∃ c o, cl.lookup y = some c ∧ cs c = some o ∧ ∀ v, ws[i]? = some (some v) → ∃ u, L2.RelV v u ∧ o.data = .cell (some u)
theorem CapsAt.cells {cl : List (Str × Addr)} {fr : List Str} {ws : List (Option V)} {cs : Addr → Option Obj} {h : Heap} (C : CapsAt cl fr ws cs) (hk : ∀ c o, cs c = some o → h.get? c = some o) (H : Hp) : CellsAt cl fr ws h (minusC cs H) :=
  ⟨C.len, fun y c e => let ⟨o, v, e1, e2⟩ := C.all y c e; ⟨minus_some e1, v, o, hk c o e1, e2⟩, C.inj, fun i y e => let ⟨c, o, e1, e2, hv⟩ := C.has i y e; ⟨c, e1, fun v ev => let ⟨u, r, d⟩ := hv v ev; ⟨u, r, o, hk c o e2, d⟩⟩⟩
open Classical in
theorem caps_of {cl : List (Str × Addr)} {fr : List Str} {ws : List (Option V)} {h : Heap} {H : Hp} (C : CellsAt cl fr ws h H) : ∃ cs : Addr → Option Obj, CapsAt cl fr ws cs ∧ ∀ c o, cs c = some o → h.get? c = some o ∧ H c = none ∧ (∃ y, cl.lookup y = some c) ∧ ∃ v, o.data = .cell v := by
  refine ⟨fun c => if ∃ y, cl.lookup y = some c then h.get? c else none, ⟨C.len, fun y c e => ?_, C.inj, fun i y e => ?_⟩, fun c o e => ?_⟩
  · obtain ⟨_, v, o, ho, hd⟩ := C.all y c e
    exact ⟨o, v, by rw [if_pos ⟨y, e⟩]; exact ho, hd⟩
  · obtain ⟨c, e1, hv⟩ := C.has i y e
    obtain ⟨_, v, o, ho, hd⟩ := C.all y c e1
    refine ⟨c, o, e1, by rw [if_pos ⟨y, e1⟩]; exact ho, fun v ev => ?_⟩
    obtain ⟨u, r, o', ho', hd'⟩ := hv v ev
    rw [ho] at ho'
    cases ho'
    exact ⟨u, r, hd'⟩
  · have e : (if ∃ y, cl.lookup y = some c then h.get? c else none) = some o := e
    split at e
    · rename_i hy
      obtain ⟨y, hy⟩ := hy
      obtain ⟨hn, v, o', ho', hd⟩ := C.all y c hy
      rw [ho'] at e
      cases e
      exact ⟨ho', hn, ⟨y, hy⟩, v, hd⟩
    · cases e
section
variable {P : Program} {w : World} {K : PySem.W.Frag} {mg : Str → Option Value} {base : Heap} {cs : Addr → Option Obj} {H : Hp} {h : Heap} {A : Around} {outer : List Env} {s : Shared}
theorem hok_minus (x : HOk P w H h) (hcs : ∀ c o, cs c = some o → H c = some (CellHO c o)) : HOk P w (minusC cs H) h := fun a o e => by
  cases ha : cs a with
  | some o' => rw [minus_some ha] at e; cases e
  | none =>
    rw [minus_none ha] at e
    refine (x a o e).stay (fun b u _ q => q) (fun b q => ?_) fun b xs q => ?_
    · cases hb : cs b with
      | some o' => rw [hcs b o' hb] at q; cases q
      | none => rw [minus_none hb]; exact q
    · cases hb : cs b with
      | some o' => rw [hcs b o' hb] at q; cases q
      | none => rw [minus_none hb]; exact q
theorem hok_plus (x : HOk P w H h) (hcs : ∀ c o, cs c = some o → H c = none ∧ h.get? c = some o) : HOk P w (plusC cs H) h := fun a o e => by
  cases ha : cs a with
  | some o' =>
    rw [plus_some ha] at e
    cases e
    have q := (hcs a o' ha).2
    exact ⟨q, q, ⟨o', q⟩, fun h1 h2 e1 st => st _ e1⟩
  | none =>
    rw [plus_none ha] at e
    refine (x a o e).stay (fun b u _ q => q) (fun b q => ?_) fun b xs q => ?_
    · cases hb : cs b with
      | some o' => rw [(hcs b o' hb).1] at q; cases q
      | none => rw [plus_none hb]; exact q
    · cases hb : cs b with
      | some o' => rw [(hcs b o' hb).1] at q; cases q
      | none => rw [plus_none hb]; exact q
theorem env0_minus (e : Env0 P w K mg base A outer s H) (hcs : ∀ c o, cs c = some o → H c = some (CellHO c o)) : Env0 P w K mg base A outer s (minusC cs H) :=
  ⟨e.frames, e.mod, fun b o q => ⟨(e.bs b o q).1, minus_no (e.bs b o q).2⟩, e.bsz, e.funs, fun b q => minus_no (e.frf b q), hok_minus e.hok hcs, e.bare⟩
theorem cell_at (x : HOk P w H h) {c : Addr} {o : Obj} (e : H c = some (CellHO c o)) : h.get? c = some o := (x c _ e).1
/-- a lambda called where its cells are told -/
theorem clo_run {k n : Nat} {f : Addr} {L : LF} {fr : List Str} {ws : List (Option V)} {us : List Value} {vs : List V} {Q : VK} {sp : List (Option V) → Sp} (lo : LOk P w K mg base k f L n fr sp) (hr : Room k A) (e0 : Env0 P w K mg base A outer s H) (hcs : ∀ c o, cs c = some o → H c = some (CellHO c o))
    (hf : H f = some (LnO f L)) (hc : H L.c = some (CodeO L.c L.qual)) (C : CapsAt L.cl fr ws cs) (r : Vals vs us) (hl : vs.length = n) (q : sp ws vs (minusC cs H) (fun r H2 => (∀ c o, cs c = some o → H2 c = none) → Q r (plusC cs H2)) E0) :
    codeAny (model P w) A (.call (.ref f) ⟨us, []⟩) (CR CX0 outer P w H s Q E0) s := by
  have nof : ∀ a φ, H a = some (.ext φ) → cs a = none := fun a φ e => by
    cases ha : cs a with
    | none => rfl
    | some o => rw [hcs a o ha] at e; cases e
  refine codeAny_mono (lo.run A outer s (minusC cs H) us vs ws _ hr (env0_minus e0 hcs) (by rw [minus_none (nof _ _ hf)]; exact hf) (by rw [minus_none (nof _ _ hc)]; exact hc) (C.cells (fun c o e => cell_at e0.hok (hcs c o e)) _) r hl q) fun r s' hq => ?_
  cases r with
  | error e => exact (show False from hq).elim
  | ok fl =>
    cases fl with
    | next => exact False.elim hq
    | brk => exact False.elim hq
    | cont => exact False.elim hq
    | ret u =>
      obtain ⟨v, H2, os, bare, un, hok, rv, q⟩ := hq
      have at0 : ∀ c o, cs c = some o → s.heap.get? c = some o := fun c o e => cell_at e0.hok (hcs c o e)
      have nfr : ∀ c o, cs c = some o → c ∉ frs outer := fun c o e z => by
        have := e0.frf c z
        rw [hcs c o e] at this
        cases this
      have at1 : ∀ c o, cs c = some o → s'.heap.get? c = some o := fun c o e => un.keep c o (at0 c o e) (minus_some e) (nfr c o e) (by simp)
      have n2 : ∀ c o, cs c = some o → H2 c = none := fun c o e => un.free c o (at0 c o e) (minus_some e) (by simp)
      have cn : ∀ b, H b = none → cs b = none := fun b e => by
        cases hb : cs b with
        | none => rfl
        | some o => rw [hcs b o hb] at e; cases e
      refine ⟨v, plusC cs H2, os, bare, ⟨fun b o e n hb hx => un.keep b o e (minus_no n) hb hx, fun b o e n hb hx => un.slot b o e (minus_no n) hb hx, fun b o e n hx => ?_, fun b o e hx => un.there b o e hx, fun b xs e => ?_, fun b o u e => ?_, fun b ps e => ?_⟩, hok_plus hok fun c o e => ⟨n2 c o e, at1 c o e⟩, rv, q n2⟩
      · rw [plus_none (cn b n)]
        exact un.free b o e (minus_no n) hx
      · have hb : cs b = none := by
          cases hb : cs b with
          | none => rfl
          | some o => rw [hcs b o hb] at e; cases e
        rw [plus_none hb]
        exact un.tups b xs (by rw [minus_none hb]; exact e)
      · cases hb : cs b with
        | none =>
          rw [plus_none hb]
          exact un.frzs b o u (by rw [minus_none hb]; exact e)
        | some o' =>
          rw [plus_some hb, ← hcs b o' hb]
          exact e
      · have hb : cs b = none := by
          cases hb : cs b with
          | none => rfl
          | some o => rw [hcs b o hb] at e; cases e
        rw [plus_none hb]
        exact un.tbls b ps (by rw [minus_none hb]; exact e)
end
/-! ### has(e): a local name that holds a lambda -/
def tCallF (P : Program) (w : World) (K : PySem.W.Frag) (mg : Str → Option Value) (base : Heap) (k i : Nat) (t : TA) : TE := fun σ H Q => ∃ (f : Addr) (L0 : LF), σ[i]? = some (some (.ref f)) ∧ H f = some (LnO f L0) ∧ t σ H fun vs H1 =>
  ∃ (L : LF) (fr : List Str) (ws : List (Option V)) (cs : Addr → Option Obj) (sp : List (Option V) → Sp), H1 f = some (LnO f L) ∧ H1 L.c = some (CodeO L.c L.qual) ∧ (∀ c o, cs c = some o → H1 c = some (CellHO c o)) ∧ CapsAt L.cl fr ws cs ∧ LOk P w K mg base k f L vs.length fr sp ∧
    sp ws vs (minusC cs H1) (fun r H2 => (∀ c o, cs c = some o → H2 c = none) → Q r (plusC cs H2)) E0
section
variable {X : Cx} {k j i : Nat} {x : Str} {p pos : Pos} {e : Expr} {es : List Expr} {t : TA}
theorem lnAt {pins : List (Addr × Obj)} {σ : L2.St} {H : Hp} {s : Shared} {f : Addr} {L : LF} (I : Inv X pins σ H s) (e : H f = some (LnO f L)) : PySem.W.FnAt f s.heap := by
  obtain ⟨pm, ctv, ho⟩ := lnO_at I.hok e
  exact ⟨_, _, _, _, ho⟩
theorem pe_callF (hr : Room k X.A) (hN : X.N[i]? = some x) (hv : Vis X.env.scope x) (ha : PA X (e :: es) t)
    (hd : (x == ("__debug__" : Str)) = false := by decide) (hcd : (x == ("__classdict__" : Str)) = false := by decide)
    (he : starEach (e :: es) X.env = (false, eval e X.env) :: starEach es X.env := by rfl) (hpl : (backTo pos (starEach es X.env)).any (·.1) = false := by rfl) (hxe : X.xe = X.xe := by rfl) :
    PE X (.Call (.Name x p) (e :: es) [] pos) (tCallF X.prog X.w X.K X.mg X.base k i t) := by
  refine ⟨fun pins s σ H Q I h => ?_⟩
  obtain ⟨f, L0, hs, hf, ht⟩ := h
  refine wpAny_Call_Name_kw (thn ((pe_var (pos := p) hN hv hd hcd).run pins s σ H (fun v H1 => v = .ref f ∧ H1 = H) I ⟨.ref f, hs, rfl, rfl⟩) fun u s1 ⟨v, H1, I1, r1, q1⟩ => ?_)
  obtain ⟨ev, eH⟩ := q1
  subst ev
  rw [eH] at I1
  obtain rfl : u = Value.ref f := r1
  refine PySem.W.callWith_F (first := []) (lnAt I1 hf) (thn (ha.run pos pins s1 σ H _ I1 ht) fun us s2 ⟨vs, H2, I2, r, L, fr, ws, cs, sp, h1, h2, h3, C, lo, q⟩ => ⟨lnAt I2 h1, ?_⟩) he hpl
  show wpAny _ _ (call (.ref f) us) _ _ _
  refine wpAny_call (codeAny_mono (clo_run lo hr I2.env0 h3 h1 h2 C r rfl q) fun r s' hq => ?_)
  cases r with
  | error e => exact (show False from hq).elim
  | ok fl =>
    cases fl with
    | ret u => exact I2.after hq
    | next => exact False.elim hq
    | brk => exact False.elim hq
    | cont => exact False.elim hq
end
/-! ### the lambda is made -/
section
variable {X : Cx} {pins : List (Addr × Obj)} {σ : L2.St} {H : Hp} {s : Shared}
theorem inv_ln {L : LF} {t' : Nat} {pm ctv : Value} (I : Inv X pins σ H s) :
    Inv X pins σ (upd H s.heap.objs.size (LnO s.heap.objs.size L)) { s with heap := s.heap.push (PySem.W.kla_obj "<lambda>" L.qual L.params L.body L.scope L.cl pm L.c ctv), toks := t' } := by
  refine I.laid (a := s.heap.objs.size) (fun b u e => Heap.get?_push_of_some _ e) (Nat.le_refl _) ?_
  have e : (s.heap.push (PySem.W.kla_obj "<lambda>" L.qual L.params L.body L.scope L.cl pm L.c ctv)).get? s.heap.objs.size = some (PySem.W.kla_obj "<lambda>" L.qual L.params L.body L.scope L.cl pm L.c ctv) := Heap.get?_push_size _ rfl
  exact ⟨⟨pm, ctv, e⟩, ⟨_, e⟩, fun h1 h2 ⟨p, t, z⟩ st => ⟨p, t, st _ z⟩⟩
theorem lam_mk {c Pt : Addr} {params : Arguments} {body : Expr} {scope : Scope} {pos : Pos} {E : Value → Shared → Prop} {Q : Value → Shared → Prop} (I : Inv X pins σ H s) (TB : LamX.TabB X.base X.mg c Pt) (hcode : X.env.code = .ref c)
    (hT : TabS H Pt (X.env.qual ++ "<lambda>")) (hdef : defaultsOf params X.env = ([], [])) (hfree : ∀ y ∈ scope.names, y.2 = .free → ∃ c, X.env.cells.lookup y.1 = some c)
    (h : ∀ (f c' : Addr) (H1 : Hp) (s' : Shared), Inv X pins σ H1 s' → (∀ b o, b ≠ Pt → H b = some o → H1 b = some o) → TabS H1 Pt (X.env.qual ++ "<lambda>") → H f = none → H1 f = some (LnO f ⟨X.env.qual ++ "<lambda>", params, body, scope, cloFrom X.env.cells scope.names [], c'⟩) → H1 c' = some (CodeO c' (X.env.qual ++ "<lambda>")) → Q (.ref f) s') :
    wpAny (model X.prog X.w) X.A (eval (.Lambda params body scope pos) X.env) Q E s := by
  obtain ⟨ps, hP, ht, ha⟩ := hT
  refine PySem.W.kla_eval hdef ?_
  have bP : s.heap.BuiltinsAt X.mg Pt := TB.bm.keeps I.bk
  have hP' : s.heap.get? Pt = some { cls := .none, data := .fields ps } := I.hok Pt _ hP
  cases hc : codeAmong pos ps.toList with
  | none =>
    refine PySem.W.kla_makeFunction (mg := X.mg) (c := c) (P := Pt) (ps := ps) (closure_ok hfree) I.ok.glob (I.mod.glob.keeps I.bk) hcode (TB.code.keeps I.bk) hP' ht hc TB.gP bP fun c' ctv h' tk hx hge hlt hrec htb => ?_
    obtain ⟨c2, oc, vs, t, e2, hoc, hd, hv⟩ := hrec
    cases e2
    have nC : H c' = none := I.hok.fresh hge
    have I1 := LamX.inv_table (t' := tk) (more := #[rawInt pos.line, rawInt pos.col, .ref c']) (h' := h') I hP (fun b o hb e => hx b o hb e) htb hge ⟨oc, vs, t, hoc, hd, hv⟩
    have nF := I1.hok.fresh (Nat.le_refl _)
    have I2 := inv_ln (L := ⟨X.env.qual ++ "<lambda>", params, body, scope, cloFrom X.env.cells scope.names [], c'⟩) (t' := tk) (pm := (X.mg "__name__").getD .none) (ctv := ctv) I1
    have keep1 : ∀ b o, b ≠ Pt → H b = some o → upd (upd H Pt (.tbl (ps ++ #[rawInt pos.line, rawInt pos.col, .ref c']))) c' (CodeO c' (X.env.qual ++ "<lambda>")) b = some o := fun b o hb e => by
      rw [upd_ne (ne_of_none e nC), upd_ne hb]
      exact e
    have keep2 : ∀ b o, upd (upd H Pt (.tbl (ps ++ #[rawInt pos.line, rawInt pos.col, .ref c']))) c' (CodeO c' (X.env.qual ++ "<lambda>")) b = some o → upd (upd (upd H Pt (.tbl (ps ++ #[rawInt pos.line, rawInt pos.col, .ref c']))) c' (CodeO c' (X.env.qual ++ "<lambda>"))) h'.objs.size (LnO h'.objs.size ⟨X.env.qual ++ "<lambda>", params, body, scope, cloFrom X.env.cells scope.names [], c'⟩) b = some o := fun b o e =>
      (upd_ne (ne_of_none e nF)).trans e
    have eL : (ps ++ #[rawInt pos.line, rawInt pos.col, .ref c']).toList = ps.toList ++ [rawInt pos.line, rawInt pos.col, .ref c'] := by simp
    have cN : ∀ ps, CodeO c' (X.env.qual ++ "<lambda>") ≠ .tbl ps := LamX.codeO_ne
    refine h h'.objs.size c' _ _ I2 (fun b o hb e => keep2 b o (keep1 b o hb e)) ?_ (I.hok.fresh (Nat.le_trans hge (Nat.le_of_lt hlt))) upd_same (keep2 _ _ upd_same)
    refine ⟨_, keep2 _ _ (by rw [upd_ne (ne_of_none hP nC), upd_same]), by rw [eL]; exact PySem.TriplesOk_snoc _ _ _ _ ht, fun p' cv hcv => ?_⟩
    rw [eL] at hcv
    rcases LamX.among_app _ ht hcv with z | z
    · obtain ⟨c0, e1, e2⟩ := ha p' cv z
      exact ⟨c0, e1, keep2 _ _ (keep1 _ _ (fun z => by rw [z, hP] at e2; exact LamX.codeO_ne ps (Option.some.inj e2).symm) e2)⟩
    · exact ⟨c', z, keep2 _ _ upd_same⟩
  | some cv =>
    obtain ⟨c', e, hco⟩ := ha pos cv hc
    subst e
    refine PySem.W.kla_makeFunctionHit (mg := X.mg) (c := c) (P := Pt) (ps := ps) (closure_ok hfree) I.ok.glob (I.mod.glob.keeps I.bk) hcode (TB.code.keeps I.bk) hP' ht hc bP fun ctv h' tk hx hsz => ?_
    have I1 : Inv X pins σ H { s with heap := h', toks := tk } := I.kept hx
    have nF : H h'.objs.size = none := I1.hok.fresh (Nat.le_refl _)
    have I2 := inv_ln (L := ⟨X.env.qual ++ "<lambda>", params, body, scope, cloFrom X.env.cells scope.names [], c'⟩) (t' := tk) (pm := (X.mg "__name__").getD .none) (ctv := ctv) I1
    have keep2 : ∀ b o, H b = some o → upd H h'.objs.size (LnO h'.objs.size ⟨X.env.qual ++ "<lambda>", params, body, scope, cloFrom X.env.cells scope.names [], c'⟩) b = some o := fun b o e => (upd_ne (ne_of_none e nF)).trans e
    exact h h'.objs.size c' _ _ I2 (fun b o _ e => keep2 b o e) ⟨ps, keep2 _ _ hP, ht, fun p' cv hcv => let ⟨c0, e1, e2⟩ := ha p' cv hcv; ⟨c0, e1, keep2 _ _ e2⟩⟩ nF upd_same (keep2 _ _ hco)
end
/-- a lambda: mk tells its words by its code object; te reads its body at the level k -/
def tLam (P : Program) (w : World) (K : PySem.W.Frag) (mg : Str → Option Value) (base : Heap) (Pt : Addr) (q : Str) (mk : Addr → LF) (k n : Nat) (N fr : List Str) (te : TE) : TE := fun σ H Q => TabS H Pt q ∧ ∀ (f c' : Addr) (H1 : Hp), (∀ b o, b ≠ Pt → H b = some o → H1 b = some o) → TabS H1 Pt q → H f = none →
  H1 f = some (LnO f (mk c')) → H1 (mk c').c = some (CodeO (mk c').c (mk c').qual) → (∀ sp : List (Option V) → Sp, (∀ ws vs H Q, vs.length = n → ws.length = fr.length → sp ws vs H Q E0 → te (startF N vs ws) H Q) → LOk P w K mg base k f (mk c') n fr sp) → Q (.ref f) H1
theorem pe_lam {X : Cx} {c Pt : Addr} {params : Arguments} {body : Expr} {scope : Scope} {pos : Pos} {k : Nat} {N ps fr : List Str} {te : TE} {osc : Scope} (hosc : X.env.scope = osc) (TB : LamX.TabB X.base X.mg c Pt) (hcode : X.env.code = .ref c) (hS : nscB N ps fr scope = true) (hF : ndefB osc scope fr = true)
    (hdef : defaultsOf params X.env = ([], [])) (hb : ∀ (q : Str) (cl : List (Str × Addr)) (pm cv ctv : Value) (us : List Value), us.length = ps.length → bindArgs (PySem.W.kla_fn "<lambda>" q params body scope cl pm cv ctv) ⟨us, []⟩ = pure (ps.zip us))
    (hbody : ∀ (f c' : Addr) (A : Around) (outer : List Env) (s : Shared) (H : Hp), Room k (A.deeper (envF (LF.nf ⟨X.env.qual ++ "<lambda>", params, body, scope, cloFrom X.env.cells scope.names [], c'⟩) f s.heap.objs.size)) →
      PE (ncx CX0 X.prog X.w X.K X.mg X.base N (LF.nf ⟨X.env.qual ++ "<lambda>", params, body, scope, cloFrom X.env.cells scope.names [], c'⟩) f A outer s H E0) body te) :
    PE X (.Lambda params body scope pos) (tLam X.prog X.w X.K X.mg X.base Pt (X.env.qual ++ "<lambda>") (fun c' => ⟨X.env.qual ++ "<lambda>", params, body, scope, cloFrom X.env.cells scope.names [], c'⟩) (k + 1) ps.length N fr te) := by
  refine ⟨fun pins s σ H Q I h => ?_⟩
  obtain ⟨hT, h⟩ := h
  have hfree : ∀ y ∈ scope.names, y.2 = .free → ∃ c, X.env.cells.lookup y.1 = some c := fun y hy e => (ndef_free (hosc ▸ hF) y hy e).elim (fun z => I.ok.has _ (.inl z)) fun z => I.ok.has _ (.inr z)
  refine lam_mk I TB hcode hT hdef hfree fun f c' H1 s' I1 eN T1 f0 f1 c1 => ⟨.ref f, H1, I1, rfl, ?_⟩
  refine h f c' H1 eN T1 f0 f1 c1 fun sp hsp => ?_
  exact lok_of (nscope_by hS) (fun pm ctv us hl => hb _ _ _ _ _ us hl) fun A outer s H vs ws Q hr hl hw hq => ⟨te, hbody f c' A outer s H hr, hsp ws vs H Q hl hw hq⟩
/-! ### a call whose arguments hold a lambda -/
def tCallC (cl : List (Str × Addr)) (fr : List Str) (js : List Nat) (sp : Sp) (t : TA) : TE := fun σ H Q => t σ H fun vs H1 => ∀ cs : Addr → Option Obj, CapsAt cl fr (js.map (slotAt σ)) cs → (∀ c o, cs c = some o → H1 c = none) →
  sp vs (plusC cs H1) (fun r H2 => (∀ c o, cs c = some o → H2 c = some (CellHO c o)) → Q r (minusC cs H2)) E0
theorem pe_dcallC {X : Cx} {k : Nat} {x : Str} {ps fr : List Str} {js : List Nat} {sp : Sp} {e : Expr} {es : List Expr} {t : TA} {p pos : Pos} {scope osc : Scope} (D : DefOk X.prog X.w X.K X.mg X.base k x ps sp) (hr : Room k X.A) (hg : Gl X x) (hosc : X.env.scope = osc) (hF : ndefB osc scope fr = true) (hjs : js.map (fun j => X.N[j]?) = fr.map some)
    (hab : ∀ y c, X.env.cells.lookup y = some c → X.s_0.heap.objs.size ≤ c) (ha : PA X (e :: es) t) (hdb : (x == ("__debug__" : Str)) = false := by decide)
    (he : starEach (e :: es) X.env = (false, eval e X.env) :: starEach es X.env := by rfl) (hpl : (backTo pos (starEach es X.env)).any (·.1) = false := by rfl) :
    PE X (.Call (.Name x p) (e :: es) [] pos) (tCallC (cloFrom X.env.cells scope.names []) fr js sp t) := by
  obtain ⟨f, fd, F, hm, hk, hb⟩ := D
  refine ⟨fun pins s σ H Q I h => ?_⟩
  refine wpAny_Call_Name_kw (ld_glob I hg hm ?_ hdb)
  refine PySem.W.callWith_K (h₀ := X.base) I.ok.mod.kin hk (thn (ha.run pos pins s σ H _ I h) fun us s1 ⟨vs, H1, I1, r, q⟩ => ⟨I1.kIn, ?_⟩) he hpl
  have cp : Caps X (cloFrom X.env.cells scope.names []) fr js := Caps.made I1.ok (ndef_free (hosc ▸ hF)) (ndef_fr hF) hjs
  obtain ⟨cs, C, hcs⟩ := caps_of (cells_of I1 cp)
  have q := q cs C fun c o e => (hcs c o e).2.1
  have at1 : ∀ c o, cs c = some o → s1.heap.get? c = some o := fun c o e => (hcs c o e).1
  have nH : ∀ c o, cs c = some o → H1 c = none := fun c o e => (hcs c o e).2.1
  have above : ∀ c o, cs c = some o → X.s_0.heap.objs.size ≤ c := fun c o e => by
    obtain ⟨_, _, ⟨y, hy⟩, _⟩ := hcs c o e
    exact hab y c (cp.sub y c hy)
  have nfr : ∀ b, b ∈ frs X.stack → cs b = none := fun b hb => by
    cases hc : cs b with
    | none => rfl
    | some o =>
      exfalso
      obtain ⟨ho, _, ⟨y, hy⟩, v, hd⟩ := hcs b o hc
      rcases List.mem_cons.mp (I1.stkSub b hb) with z | z
      · obtain ⟨m, hn, _⟩ := I1.loc
        rw [← z] at hn
        obtain ⟨o2, es2, ep2, g1, g2, _⟩ := hn
        rw [ho] at g1
        cases g1
        rw [hd] at g2
        cases g2
      · have h1 := (I1.ok.funs.mem z).2
        obtain ⟨o3, h3, _⟩ := h1
        exact Nat.lt_irrefl _ (Nat.lt_of_lt_of_le (Heap.lt_size h3) (above b o hc))
  have e0 := I1.env0
  have cb : ∀ b o, X.base.get? b = some o → cs b = none := fun b o e => by
    cases hc : cs b with
    | none => rfl
    | some o2 =>
      have h1 := Heap.lt_size e
      have h2 := above b o2 hc
      have h3 := I1.ok.bsz
      exact absurd (Nat.lt_of_lt_of_le h1 (Nat.le_trans h3 h2)) (Nat.lt_irrefl _)
  have e1 : Env0 X.prog X.w X.K X.mg X.base X.A X.stack s1 (plusC cs H1) :=
    ⟨e0.frames, e0.mod, fun b o e => ⟨(e0.bs b o e).1, by rw [plus_none (cb b o e)]; exact (e0.bs b o e).2⟩, e0.bsz, e0.funs, fun b hb => by rw [plus_none (nfr b hb)]; exact e0.frf b hb, hok_plus e0.hok fun c o e => ⟨nH c o e, at1 c o e⟩, e0.bare⟩
  have hl : us.length = ps.length := by rw [← r.length]; exact F.len _ _ _ _ q
  have hbu := hb s1 us I1.kIn (by rw [List.append_nil]; exact hl)
  rw [List.append_nil] at hbu
  refine wpAny_call (codeAny_mono (F.run X.A X.stack s1 (plusC cs H1) ⟨us, []⟩ us vs _ E0 hr e1 hbu r q) fun r s' hq => ?_)
  cases r with
  | error e => exact (show False from hq).elim
  | ok fl =>
    cases fl with
    | next => exact False.elim hq
    | brk => exact False.elim hq
    | cont => exact False.elim hq
    | ret u =>
      refine I1.after ?_
      obtain ⟨v, H', os, bare, un, hok, rv, q⟩ := hq
      have h2 : ∀ c o, cs c = some o → H' c = some (CellHO c o) := fun c o e => un.frzs c o _ (plus_some e)
      have cn : ∀ b o, H1 b = some o → cs b = none := fun b o e => by
        cases hc : cs b with
        | none => rfl
        | some o2 => rw [nH b o2 hc] at e; cases e
      refine ⟨v, minusC cs H', os, bare, ⟨fun b o e n hb hx => ?_, fun b o e n hb hx => ?_, fun b o e n hx => ?_, fun b o e hx => un.there b o e hx, fun b xs e => ?_, fun b o u e => ?_, fun b ps e => ?_⟩, hok_minus hok h2, rv, q h2⟩
      · cases hc : cs b with
        | none => exact un.keep b o e (by rw [plus_none hc]; exact n) hb hx
        | some o2 =>
          rw [at1 b o2 hc] at e
          rw [← Option.some.inj e]
          exact cell_at hok (h2 b o2 hc)
      · exact un.slot b o e (by rw [plus_none (nfr b hb)]; exact n) hb hx
      · cases hc : cs b with
        | none =>
          rw [minus_none hc]
          exact un.free b o e (by rw [plus_none hc]; exact n) hx
        | some o2 => exact minus_some hc
      · rw [minus_none (cn b _ e)]
        exact un.tups b xs (by rw [plus_none (cn b _ e)]; exact e)
      · rw [minus_none (cn b _ e)]
        exact un.frzs b o u (by rw [plus_none (cn b _ e)]; exact e)
      · rw [minus_none (cn b _ e)]
        exact un.tbls b ps (by rw [plus_none (cn b _ e)]; exact e)
end G

namespace G
open PySem L2 RT PySem.Spec PyProof.Rows NdefX
open LamX (CodeO TabS)
/-! ### function values: the readings -/
section
variable {K : PySem.W.Frag} {H : Hp} {cs : Addr → Option Obj}
theorem rd_minus (hcs : ∀ c o, cs c = some o → H c = some (CellHO c o)) {a : Addr} {u : HO} (hu : ∀ φ, u ≠ .ext φ) (hf : ∀ o w, u ≠ .frz o w) (h : Rd H a u) : Rd (minusC cs H) a u := by
  cases hc : cs a with
  | none =>
    rcases h with h | ⟨o, h⟩
    · exact .inl (by rw [minus_none hc]; exact h)
    · exact .inr ⟨o, by rw [minus_none hc]; exact h⟩
  | some o2 =>
    exfalso
    have e := hcs a o2 hc
    rcases h with h | ⟨o, h⟩
    · rw [e] at h
      exact hf _ _ (Option.some.inj h).symm
    · rw [e] at h
      have h := Option.some.inj h
      unfold CellHO at h
      injection h with _ h
      exact hu _ h.symm
theorem sql_minus (hcs : ∀ c o, cs c = some o → H c = some (CellHO c o)) {a : Addr} {xs : List V} (h : SqL K H a xs) : SqL K (minusC cs H) a xs := by
  rcases h with h | h
  · exact .inl (rd_minus hcs (fun _ z => by cases z) (fun _ _ z => by cases z) h)
  · exact .inr h
theorem sqt_minus (hcs : ∀ c o, cs c = some o → H c = some (CellHO c o)) {a : Addr} {xs : List V} (h : SqT K H a xs) : SqT K (minusC cs H) a xs := by
  rcases h with h | h
  · exact .inl (rd_minus hcs (fun _ z => by cases z) (fun _ _ z => by cases z) h)
  · exact .inr h
mutual
theorem dq_minus (hcs : ∀ c o, cs c = some o → H c = some (CellHO c o)) : ∀ {v : V} {d : PyData}, Dq K H v d → Dq K (minusC cs H) v d
  | _, _, .non => .non
  | _, _, .bl b => .bl b
  | _, _, .int i => .int i
  | _, _, .str x => .str x
  | _, _, .lst h a => .lst (sql_minus hcs h) (dqs_minus hcs a)
  | _, _, .tup h a => .tup (sqt_minus hcs h) (dqs_minus hcs a)
  | _, _, .dic (a := a) h => .dic (by
    cases hc : cs a with
    | none => rw [minus_none hc]; exact h
    | some o => rw [hcs a o hc] at h; cases h)
theorem dqs_minus (hcs : ∀ c o, cs c = some o → H c = some (CellHO c o)) : ∀ {vs : List V} {ds : List PyData}, DqAll K H vs ds → DqAll K (minusC cs H) vs ds
  | _, _, .nil => .nil
  | _, _, .cons h a => .cons (dq_minus hcs h) (dqs_minus hcs a)
end
/-- no function, no owned object -/
inductive Capt : SV → Prop
  | d (x) : Capt (.d x)
  | o (C fs) : Capt (.o C fs)
theorem rv_minus (hcs : ∀ c o, cs c = some o → H c = some (CellHO c o)) {x : SV} {v : V} (hx : Capt x) (h : RV K H x v) : RV K (minusC cs H) x v := by
  cases hx with
  | d x => exact dq_minus hcs h
  | o C fs =>
    obtain ⟨a, dx, vs, e, h1, h2⟩ := h
    refine ⟨a, dx, vs, e, ?_, Paired.mapP h2 fun p q z => ⟨z.1, dq_minus hcs z.2⟩⟩
    cases hc : cs a with
    | none => rw [minus_none hc]; exact h1
    | some o => rw [hcs a o hc] at h1; cases h1
end
/-- what a lambda of one int is wished to do: cap: what its captured names hold -/
def spLam (K : PySem.W.Frag) (T : List Tb) (cap : List SV) (pre : Int → Prop) (φ : Int → SV) : List (Option V) → Sp := fun ws vs H Q _ => ∃ (n : Int) (U : Addr → Prop), vs = [.int n] ∧ pre n ∧ (∀ a, U a → a ∉ keysT T ∧ Hd H a) ∧ (∀ P ∈ T, TabQ H P) ∧
  (∀ (i : Nat) (x : SV), cap[i]? = some x → ∃ v, ws[i]? = some (some v) ∧ RV K (hid U T [] H) x v) ∧
  ∀ v H', (∀ a o, a ∉ keysT T → H a = some o → H' a = some o) → (∀ P ∈ T, TabQ H' P) → RV K (hid U T [] H') (φ n) v → Q v H'
section
variable {P : Program} {w : World} {K : PySem.W.Frag} {mg : Str → Option Value} {base : Heap} {T : List Tb}
theorem lam_body {te : TE} {N fr : List Str} {cap : List SV} {pre : Int → Prop} {φ : Int → SV} (hl : cap.length = fr.length)
    (hT : ∀ (C : CC K T) n, pre n → TJ C te (some (dI n) :: (cap.map some ++ List.replicate (N.length - 1 - fr.length) none)) [] (Is (φ n) [])) :
    ∀ (ws : List (Option V)) (vs : List V) (H : Hp) (Q : VK), vs.length = 1 → ws.length = fr.length → spLam K T cap pre φ ws vs H Q E0 → te (startF N vs ws) H Q := by
  rintro ws vs H Q hv hw ⟨n, U, rfl, hp, hU, hT2, hc, q⟩
  have as0 : As (K := K) (T := T) ⟨U, fun _ => False, H, fun a h => ⟨fun z => z, hU a h⟩⟩ [] H := ⟨fun a o _ _ e => e, hT2, List.Pairwise.nil, fun a h => absurd h (by simp), fun p h => absurd h (by simp)⟩
  have rep : ∀ k, RS K (hid U T [] H) (List.replicate k none) (List.replicate k none) := fun k => by
    induction k with
    | zero => exact .nil
    | succ k ih => exact .cons (fun x e => by cases e) ih
  have rs : ∀ (cap : List SV) (ws : List (Option V)) (k : Nat), cap.length = ws.length → (∀ (i : Nat) (x : SV), cap[i]? = some x → ∃ v, ws[i]? = some (some v) ∧ RV K (hid U T [] H) x v) → RS K (hid U T [] H) (cap.map some ++ List.replicate k none) (ws ++ List.replicate k none) := by
    intro cap
    induction cap with
    | nil =>
      intro ws k hl _
      cases ws with
      | nil => exact rep k
      | cons a b => cases hl
    | cons x cap ih =>
      intro ws k hl hc
      cases ws with
      | nil => cases hl
      | cons a b =>
        refine .cons (fun y e => ?_) (ih b k (by simpa using hl) fun i y e => hc (i + 1) y (by simpa using e))
        cases e
        obtain ⟨v, e1, r⟩ := hc 0 x rfl
        have e1 : a = some v := by simpa using e1
        exact ⟨v, e1, r⟩
  refine hT ⟨U, fun _ => False, H, fun a h => ⟨fun z => z, hU a h⟩⟩ n hp (startF N [.int n] ws) H ?_ as0 Q fun v H' x F' ev a' rv' ⟨ex, ef⟩ => ?_
  · unfold startF
    refine .cons (fun y e => by cases e; exact ⟨_, rfl, rvI n⟩) ?_
    have := rs cap ws (N.length - 1 - ws.length) (by rw [hl, hw]) hc
    rw [hw] at this
    show RS K _ (cap.map some ++ List.replicate (N.length - 1 - fr.length) none) (ws ++ List.replicate (N.length - 1 - ws.length) none)
    rw [hw]
    exact this
  · subst ex ef
    exact q v H' (fun a o h1 h2 => a'.ex a o (fun z => z) h1 h2) a'.tab rv'
/-- a value that is a function of one int: cap what its captured names hold, φ what it gives where pre holds -/
def CloP (P : Program) (w : World) (K : PySem.W.Frag) (mg : Str → Option Value) (base : Heap) (k : Nat) (T : List Tb) (pre : Int → Prop) (φ : Int → SV) : Hp → V → Prop := fun H v => ∃ (f : Addr) (L : LF) (fr : List Str) (ws : List (Option V)) (cs : Addr → Option Obj) (cap : List SV), v = .ref f ∧ H f = some (LnO f L) ∧ H L.c = some (CodeO L.c L.qual) ∧
  (∀ c o, cs c = some o → H c = some (CellHO c o)) ∧ CapsAt L.cl fr ws cs ∧ LOk P w K mg base k f L 1 fr (spLam K T cap pre φ) ∧ (∀ x ∈ cap, Capt x) ∧ ∀ (i : Nat) (x : SV), cap[i]? = some x → ∃ v, ws[i]? = some (some v) ∧ RV K H x v
abbrev cloV (P : Program) (w : World) (K : PySem.W.Frag) (mg : Str → Option Value) (base : Heap) (k : Nat) (T : List Tb) (pre : Int → Prop) (φ : Int → SV) : SV := .p (CloP P w K mg base k T pre φ)
variable {C : CC K T} {S : SS} {F : FP} {Pst : SV → FP → Prop} {t : TA} {k i : Nat} {pre : Int → Prop} {φ : Int → SV}
/-- has(e) -/
theorem tj_callF (hS : S[i]? = some (some (cloV P w K mg base k T pre φ))) (h : TL C t S F fun xs F1 => F1 = F ∧ ∃ n, xs = [dI n] ∧ pre n ∧ (∀ x, φ n = x → Pst x F)) : TJ C (tCallF P w K mg base k i t) S F Pst := fun σ H rs as Q q => by
  obtain ⟨v, ev, rv⟩ := rs.get hS
  obtain ⟨f, L0, _, _, _, _, rfl, h0, _⟩ := rv H hid_sub
  refine ⟨f, L0, ev, h0, h σ H rs as _ fun vs H1 xs F1 e1 a1 r1 ⟨ef, n, ex, hp, kk⟩ => ?_⟩
  subst ef ex
  have rv1 := RV.sub e1 rv
  obtain ⟨f2, L, fr, ws, cs, cap, e2, g1, g2, g3, C2, lo, hcap, g4⟩ := rv1 _ (Sub.refl _)
  cases e2
  obtain ⟨v1, rfl, rv1⟩ := rvs1 r1
  cases rv1
  have t1 := (hid_some.mp g1).2
  have t2 := (hid_some.mp g2).2
  have t3 : ∀ c o, cs c = some o → H1 c = some (CellHO c o) := fun c o e => (hid_some.mp (g3 c o e)).2
  have hh : ∀ c o, cs c = some o → ¬ C.U c ∧ c ∉ keysT T ∧ c ∉ F1.map (·.1) := fun c o e => (hid_some.mp (g3 c o e)).1
  have cn : ∀ b u, H1 b = some u → (∀ o w, u ≠ .frz o w) → cs b = none := fun b u e n => by
    cases hc : cs b with
    | none => rfl
    | some o => rw [t3 b o hc] at e; exact absurd (Option.some.inj e).symm (n _ _)
  have cU : ∀ a, (C.U a ∨ a ∈ F1.map (·.1)) → cs a = none := fun a ha => by
    cases hc : cs a with
    | none => rfl
    | some o =>
      obtain ⟨z1, _, z3⟩ := hh a o hc
      rcases ha with z | z
      · exact absurd z z1
      · exact absurd z z3
  have cT : ∀ Pq ∈ T, cs Pq.1 = none := fun Pq hP => by
    cases hc : cs Pq.1 with
    | none => rfl
    | some o => exact absurd (List.mem_map.mpr ⟨Pq, hP, rfl⟩) (hh _ o hc).2.1
  have hidE : hid (fun a => C.U a ∨ a ∈ F1.map (·.1)) T [] (minusC cs H1) = minusC cs (C.hid F1 H1) := by
    funext a
    cases hc : cs a with
    | none =>
      rw [minus_none hc]
      have : hid (fun a => C.U a ∨ a ∈ F1.map (·.1)) T [] (minusC cs H1) a = hid (fun a => C.U a ∨ a ∈ F1.map (·.1)) T [] H1 a := by
        unfold hid
        split
        · rfl
        · exact minus_none hc
      rw [this, hid_or]
    | some o =>
      rw [minus_some hc]
      unfold hid
      split
      · rfl
      · exact minus_some hc
  refine ⟨L, fr, ws, cs, spLam K T cap pre φ, t1, t2, t3, C2, lo, n, fun a => C.U a ∨ a ∈ F1.map (·.1), rfl, hp, fun a ha => ?_, fun Pq hP => ?_, fun j x hx => ?_, fun r H2 ex tb rvr n2 => ?_⟩
  · unfold Hd
    rw [minus_none (cU a ha)]
    rcases ha with z | z
    · exact ⟨(C.hU a z).2.1, a1.uH z⟩
    · exact ⟨(a1.own a z).1, a1.thereH z⟩
  · refine (a1.tab Pq hP).step (minus_none (cT Pq hP)) fun c q e => ?_
    rw [minus_none (cn c _ e (fun _ _ z => by unfold LamX.CodeO at z; cases z))]
    exact e
  · obtain ⟨u, e1, r⟩ := g4 j x hx
    refine ⟨u, e1, ?_⟩
    rw [hidE]
    exact rv_minus (fun c o e => g3 c o e) (hcap x (List.mem_of_getElem? hx)) r
  · have pH : ∀ a o, a ∉ keysT T → H1 a = some o → plusC cs H2 a = some o := fun a o hT e => by
      cases hc : cs a with
      | none =>
        rw [plus_none hc]
        exact ex a o hT (by rw [minus_none hc]; exact e)
      | some o2 =>
        rw [plus_some hc, ← t3 a o2 hc]
        exact e
    have ev2 : Ev C F1 H1 F1 (plusC cs H2) := fun a o e => by
      obtain ⟨⟨z1, z2, z3⟩, z4⟩ := hid_some.mp e
      exact hid_some.mpr ⟨⟨z1, z2, z3⟩, pH a o z2 z4⟩
    refine q r (plusC cs H2) (φ n) F1 (e1.trans ev2) ⟨fun a o z1 z2 z3 => pH a o z2 (a1.ex a o z1 z2 z3), fun Pq hP => ?_, a1.nd, a1.own, fun p hp => ?_⟩ ?_ (kk _ rfl)
    · refine (tb Pq hP).step (plus_none (cT Pq hP)) fun c q e => ?_
      cases hc : cs c with
      | none => rw [plus_none hc]; exact e
      | some o => rw [n2 c o hc] at e; cases e
    · refine (a1.mem p hp).sub ev2 ?_
      have hF : p.1 ∈ F1.map (·.1) := List.mem_map.mpr ⟨p, hp, rfl⟩
      cases e : H1 p.1 with
      | none => exact absurd e (a1.there hF)
      | some o => exact pH _ _ (a1.own _ hF).1 e
    · refine RV.sub (fun a o e => ?_) rvr
      obtain ⟨⟨z1, z2, _⟩, z4⟩ := hid_some.mp e
      refine hid_some.mpr ⟨⟨fun z => z1 (.inl z), z2, fun z => z1 (.inr z)⟩, ?_⟩
      cases hc : cs a with
      | none => rw [plus_none hc]; exact z4
      | some o2 => rw [n2 a o2 hc] at z4; cases z4
/-- a lambda just made -/
def LamP (P : Program) (w : World) (K : PySem.W.Frag) (mg : Str → Option Value) (base : Heap) (mk : Addr → LF) (k : Nat) (N fr : List Str) (te : TE) : Hp → V → Prop := fun H v => ∃ f c' : Addr, v = .ref f ∧ H f = some (LnO f (mk c')) ∧ H (mk c').c = some (CodeO (mk c').c (mk c').qual) ∧
  ∀ sp : List (Option V) → Sp, (∀ ws vs H Q, vs.length = 1 → ws.length = fr.length → sp ws vs H Q E0 → te (startF N vs ws) H Q) → LOk P w K mg base k f (mk c') 1 fr sp
theorem tj_lam {Pt : Addr} {q : Str} {mk : Addr → LF} {N fr : List Str} {te : TE} (hP : TabLam T Pt q) (kk : Pst (.p (LamP P w K mg base mk k N fr te)) F) : TJ C (tLam P w K mg base Pt q mk k 1 N fr te) S F Pst := fun σ H rs as Q qq => by
  have tabs : TabS H Pt q := as.tab _ hP.1
  refine ⟨tabs, fun f c' H1 ex tb nf hf hc hl => ?_⟩
  have nT : ∀ a, a ∉ keysT T → a ≠ Pt := fun a ha e => ha (by rw [e]; exact List.mem_map.mpr ⟨_, hP.1, rfl⟩)
  have ev : Ev C F H F H1 := fun a o e => by
    obtain ⟨⟨z1, z2, z3⟩, z4⟩ := hid_some.mp e
    exact hid_some.mpr ⟨⟨z1, z2, z3⟩, ex a o (nT a z2) z4⟩
  have as1 : As C F H1 := by
    refine ⟨fun a o z1 z2 z3 => ex a o (nT a z2) (as.ex a o z1 z2 z3), fun Q hQ => ?_, as.nd, as.own, fun p hp => ?_⟩
    · by_cases e : Q.1 = Pt
      · have e2 := hP.2 Q hQ e
        show TabQ H1 Q
        unfold TabQ
        rw [e2, e]
        exact tb
      · obtain ⟨ps, e1⟩ := (as.tab Q hQ).at_
        refine (as.tab Q hQ).step ((ex _ _ e e1).trans e1.symm) fun c q' e2 => ex c _ (fun z => ?_) e2
        obtain ⟨ps2, e3, _⟩ := tabs
        rw [z, e3] at e2
        unfold LamX.CodeO at e2
        cases e2
    · refine (as.mem p hp).sub ev ?_
      have hF : p.1 ∈ F.map (·.1) := List.mem_map.mpr ⟨p, hp, rfl⟩
      cases e : H p.1 with
      | none => exact absurd e (as.there hF)
      | some o => exact ex _ _ (nT _ (as.own _ hF).1) e
  have vis : ∀ a φ, H1 a = some (.ext φ) → C.hid F H1 a = some (.ext φ) := fun a φ e => by
    refine hid_some.mpr ⟨⟨fun z => ?_, fun z => ?_, fun z => as1.noCode z e⟩, e⟩
    · exact (as1.uH z).2 φ e
    · obtain ⟨p, hp, rfl⟩ := List.mem_map.mp z
      obtain ⟨ps, e1⟩ := (as1.tab p hp).at_
      rw [e1] at e
      cases e
  refine qq (.ref f) H1 (.p (LamP P w K mg base mk k N fr te)) F ev as1 (fun H' sb => ⟨f, c', rfl, sb _ _ (vis _ _ hf), sb _ _ (vis _ _ hc), hl⟩) kk
/-- x(lambda .., ..) -/
theorem tj_callC {α : Type} {c : CF α} {cl : List (Str × Addr)} {N fr : List Str} {js : List Nat} {mk : Addr → LF} {te : TE} (hcl : ∀ c', (mk c').cl = cl)
    (h : TL C t S F fun xs F1 => F1 = F ∧ ∃ (rest : List SV) (cap : List SV) (pre : Int → Prop) (φ : Int → SV) (a : α), xs = .p (LamP P w K mg base mk k N fr te) :: rest ∧ cap.length = fr.length ∧ (∀ (i : Nat) (x : SV), cap[i]? = some x → Capt x ∧ ∃ j, js[i]? = some j ∧ S[j]? = some (some x)) ∧
      (∀ (C : CC K T) n, pre n → TJ C te (some (dI n) :: (cap.map some ++ List.replicate (N.length - 1 - fr.length) none)) [] (Is (φ n) [])) ∧ c.enc a = cloV P w K mg base k T pre φ :: rest ∧ (c.enc a).length = c.n ∧ c.pre a ∧ Capt (c.val a) ∧ Pst (c.val a) F) :
    TJ C (tCallC cl fr js (c.sp K T) t) S F Pst := fun σ H rs as Q q => by
  refine h σ H rs as _ fun vs H1 xs F1 e1 a1 r1 ⟨ef, rest, cap, pre, φ, a, ex, hcl2, hcap, hTJ, henc, hn, hp, hcv, kk⟩ cs C2 hcs => ?_
  subst ef ex
  cases r1 with
  | cons r0 rr =>
  rename_i v0 vr
  obtain ⟨f, c', rfl, g1, g2, glo⟩ := r0 _ (Sub.refl _)
  have cn : ∀ b o, H1 b = some o → cs b = none := fun b o e => by
    cases hc : cs b with
    | none => rfl
    | some o2 => rw [hcs b o2 hc] at e; cases e
  have pl : ∀ b o, H1 b = some o → plusC cs H1 b = some o := fun b o e => by rw [plus_none (cn b o e)]; exact e
  have cU : ∀ a, (C.U a ∨ a ∈ F1.map (·.1)) → cs a = none := fun a ha => by
    cases hc : cs a with
    | none => rfl
    | some o =>
      rcases ha with z | z
      · exact absurd (hcs a o hc) (a1.uT z)
      · exact absurd (hcs a o hc) (a1.there z)
  have cT : ∀ Pq ∈ T, cs Pq.1 = none := fun Pq hP => by
    obtain ⟨ps, e⟩ := (a1.tab Pq hP).at_
    exact cn _ _ e
  have sub0 : Sub (C.hid F1 H1) (hid (fun a => C.U a ∨ a ∈ F1.map (·.1)) T [] (plusC cs H1)) := fun a o e => by
    obtain ⟨⟨z1, z2, z3⟩, z4⟩ := hid_some.mp e
    exact hid_some.mpr ⟨⟨fun z => z.elim z1 z3, z2, fun z => by simp at z⟩, pl a o z4⟩
  have celV : ∀ c o, cs c = some o → hid (fun a => C.U a ∨ a ∈ F1.map (·.1)) T [] (plusC cs H1) c = some (CellHO c o) := fun c o e => by
    refine hid_some.mpr ⟨⟨fun z => ?_, fun z => ?_, fun z => by simp at z⟩, plus_some e⟩
    · have := cU c z
      rw [e] at this
      cases this
    · obtain ⟨p, hp, rfl⟩ := List.mem_map.mp z
      rw [cT p hp] at e
      cases e
  have hlen : (LOk P w K mg base k f (mk c') 1 fr (spLam K T cap pre φ)) := glo _ (lam_body hcl2 hTJ)
  have rvsE : RVs K (hid (fun a => C.U a ∨ a ∈ F1.map (·.1)) T [] (plusC cs H1)) (c.enc a) (.ref f :: vr) := by
    rw [henc]
    refine .cons (fun H' sb => ⟨f, mk c', fr, js.map (slotAt σ), cs, cap, rfl, sb _ _ (sub0 _ _ g1), sb _ _ (sub0 _ _ g2), fun c o e => sb _ _ (celV c o e), by rw [hcl]; exact C2, hlen, fun x hx => ?_, fun i x hx => ?_⟩) (RVs.sub sub0 rr)
    · obtain ⟨i, hi⟩ := List.mem_iff_getElem?.mp hx
      exact (hcap i x hi).1
    · obtain ⟨_, j, hj, hSj⟩ := hcap i x hx
      obtain ⟨v, e2, r⟩ := rs.get hSj
      refine ⟨v, by rw [List.getElem?_map, hj]; exact congrArg some (slotAt_of e2), RV.sub (e1.trans (sub0.trans sb)) r⟩
  refine ⟨(rvs_len rvsE).symm.trans hn, a, (rvs_len rvsE).symm.trans hn, c.enc a, fun a => C.U a ∨ a ∈ F1.map (·.1), fun b hb => ?_, fun Pq hP => ?_, rvsE, ⟨rfl, hp⟩, fun y F' v H2 ⟨ef, ey⟩ ex2 tb2 _ _ _ rvy hc2 => ?_⟩
  · unfold Hd
    rw [plus_none (cU b hb)]
    rcases hb with z | z
    · exact ⟨(C.hU b z).2.1, a1.uH z⟩
    · exact ⟨(a1.own b z).1, a1.thereH z⟩
  · exact (a1.tab Pq hP).step (plus_none (cT Pq hP)) fun c q e => pl _ _ e
  · subst ef ey
    have pH : ∀ b o, b ∉ keysT T → H1 b = some o → minusC cs H2 b = some o := fun b o hT e => by
      rw [minus_none (cn b o e)]
      exact ex2 b o hT (pl b o e)
    have ev2 : Ev C F1 H1 F1 (minusC cs H2) := fun b o e => by
      obtain ⟨⟨z1, z2, z3⟩, z4⟩ := hid_some.mp e
      exact hid_some.mpr ⟨⟨z1, z2, z3⟩, pH b o z2 z4⟩
    have cn2 : ∀ b u, H2 b = some u → (∀ o w, u ≠ .frz o w) → cs b = none := fun b u e n => by
      cases hc : cs b with
      | none => rfl
      | some o => rw [hc2 b o hc] at e; exact absurd (Option.some.inj e).symm (n _ _)
    refine q v (minusC cs H2) (c.val a) F1 (e1.trans ev2) ⟨fun b o z1 z2 z3 => pH b o z2 (a1.ex b o z1 z2 z3), fun Pq hP => ?_, a1.nd, a1.own, fun p hp => ?_⟩ ?_ kk
    · refine (tb2 Pq hP).step (minus_none (cT Pq hP)) fun c q e => ?_
      rw [minus_none (cn2 c _ e (fun _ _ z => by unfold LamX.CodeO at z; cases z))]
      exact e
    · refine (a1.mem p hp).sub ev2 ?_
      have hF : p.1 ∈ F1.map (·.1) := List.mem_map.mpr ⟨p, hp, rfl⟩
      cases e : H1 p.1 with
      | none => exact absurd e (a1.there hF)
      | some o => exact pH _ _ (a1.own _ hF).1 e
    · have hv : ∀ c o, cs c = some o → hid (fun a => C.U a ∨ a ∈ F1.map (·.1)) T [] H2 c = some (CellHO c o) := fun c o e => by
        have z := (hid_some.mp (celV c o e)).1
        exact hid_some.mpr ⟨z, hc2 c o e⟩
      refine RV.sub (fun b o e => ?_) (rv_minus hv hcv rvy)
      cases hc : cs b with
      | some o2 => rw [minus_some hc] at e; cases e
      | none =>
        rw [minus_none hc] at e
        obtain ⟨⟨z1, z2, _⟩, z4⟩ := hid_some.mp e
        exact hid_some.mpr ⟨⟨fun z => z1 (.inl z), z2, fun z => z1 (.inr z)⟩, by rw [minus_none hc]; exact z4⟩
end
end G
namespace G
open PySem L2 RT PySem.Spec PyProof.Rows NdefX
theorem cellsFrom_ge : ∀ (names : List (Str × NameKind)) (n m : Nat) (acc : List (Str × Addr)), m ≤ n → (∀ y c, acc.lookup y = some c → m ≤ c) → ∀ y c, (cellsFrom n names acc).lookup y = some c → m ≤ c
  | [], n, m, acc, h, ha, y, c, e => ha y c e
  | (x, kd) :: r, n, m, acc, h, ha, y, c, e => by
    unfold cellsFrom at e
    split at e
    · refine cellsFrom_ge r (n + 1) m _ (Nat.le_succ_of_le h) (fun y' c' e' => ?_) y c e
      by_cases hy : y' = x
      · subst hy
        rw [List.lookup_cons_self] at e'
        cases e'
        exact h
      · have hb : (y' == x) = false := by simpa using hy
        rw [List.lookup_cons, hb] at e'
        exact ha y' c' e'
    · exact cellsFrom_ge r n m acc h ha y c e
/-- a def's own cells lie above what was there at its entry -/
theorem cells_above {CX : CXT} {P : Program} {w : World} {K : PySem.W.Frag} {mg : Str → Option Value} {base : Heap} {N : List Str} {qual : Str} {scope : Scope} {f : Addr} {cd : Value} {A : Around} {outer : List Env} {s : Shared} {H : Hp} {E : XK} :
    ∀ y c, (cxOf CX P w K mg base N qual scope f cd A outer s H E).nox.env.cells.lookup y = some c → (cxOf CX P w K mg base N qual scope f cd A outer s H E).nox.s_0.heap.objs.size ≤ c := fun y c e =>
  cellsFrom_ge scope.names (s.heap.objs.size + 1) s.heap.objs.size [] (Nat.le_succ _) (fun _ _ z => by cases z) y c e
section
variable {X : Cx} {P : Program} {w : World} {K : PySem.W.Frag} {mg : Str → Option Value} {base : Heap}
theorem k_callF {k i : Nat} {x : Str} {p pos : Pos} {e : Expr} {es : List Expr} {t : TA} (h1 : X.prog = P) (h2 : X.w = w) (h3 : X.K = K) (h4 : X.mg = mg) (h5 : X.base = base) (hr : Room k X.A) (hN : X.N[i]? = some x) (hv : Vis X.env.scope x) (ha : PA X (e :: es) t)
    (hd : (x == ("__debug__" : Str)) = false := by decide) (hcd : (x == ("__classdict__" : Str)) = false := by decide)
    (he : starEach (e :: es) X.env = (false, eval e X.env) :: starEach es X.env := by rfl) (hpl : (backTo pos (starEach es X.env)).any (·.1) = false := by rfl) :
    PE X (.Call (.Name x p) (e :: es) [] pos) (tCallF P w K mg base k i t) := by
  subst h1 h2 h3 h4 h5
  exact pe_callF hr hN hv ha hd hcd he hpl
theorem k_lam {c Pt : Addr} {params : Arguments} {body : Expr} {scope : Scope} {pos : Pos} {k : Nat} {N ps fr : List Str} {te : TE} {osc : Scope} {q : Str} {cl : List (Str × Addr)} (h1 : X.prog = P) (h2 : X.w = w) (h3 : X.K = K) (h4 : X.mg = mg) (h5 : X.base = base) (h6 : X.env.qual ++ "<lambda>" = q) (h7 : cloFrom X.env.cells scope.names [] = cl)
    (hosc : X.env.scope = osc) (TB : LamX.TabB base mg c Pt) (hcode : X.env.code = .ref c) (hS : nscB N ps fr scope = true) (hF : ndefB osc scope fr = true)
    (hdef : defaultsOf params X.env = ([], [])) (hb : ∀ (q : Str) (cl : List (Str × Addr)) (pm cv ctv : Value) (us : List Value), us.length = ps.length → bindArgs (PySem.W.kla_fn "<lambda>" q params body scope cl pm cv ctv) ⟨us, []⟩ = pure (ps.zip us))
    (hbody : ∀ (f c' : Addr) (A : Around) (outer : List Env) (s : Shared) (H : Hp), Room k (A.deeper (envF (LF.nf ⟨q, params, body, scope, cl, c'⟩) f s.heap.objs.size)) →
      PE (ncx CX0 P w K mg base N (LF.nf ⟨q, params, body, scope, cl, c'⟩) f A outer s H E0) body te) :
    PE X (.Lambda params body scope pos) (tLam P w K mg base Pt q (fun c' => ⟨q, params, body, scope, cl, c'⟩) (k + 1) ps.length N fr te) := by
  subst h1 h2 h3 h4 h5 h6 h7
  exact pe_lam hosc TB hcode hS hF hdef hb hbody
theorem k_dcallC {k : Nat} {x : Str} {ps fr : List Str} {js : List Nat} {sp : Sp} {e : Expr} {es : List Expr} {t : TA} {p pos : Pos} {scope osc : Scope} {cl : List (Str × Addr)} (h7 : cloFrom X.env.cells scope.names [] = cl) (D : DefOk X.prog X.w X.K X.mg X.base k x ps sp) (hr : Room k X.A) (hg : Gl X x) (hosc : X.env.scope = osc) (hF : ndefB osc scope fr = true) (hjs : js.map (fun j => X.N[j]?) = fr.map some)
    (hab : ∀ y c, X.env.cells.lookup y = some c → X.s_0.heap.objs.size ≤ c) (ha : PA X (e :: es) t) (hdb : (x == ("__debug__" : Str)) = false := by decide)
    (he : starEach (e :: es) X.env = (false, eval e X.env) :: starEach es X.env := by rfl) (hpl : (backTo pos (starEach es X.env)).any (·.1) = false := by rfl) :
    PE X (.Call (.Name x p) (e :: es) [] pos) (tCallC cl fr js sp t) := by
  subst h7
  exact pe_dcallC D hr hg hosc hF hjs hab ha hdb he hpl
end
end G

namespace MS
/-! ### numerical semigroups told by a predicate -/
structure Semi (p : Nat → Prop) (c : Nat) : Prop where
  zero : p 0
  add : ∀ a b, p a → p b → p (a + b)
  big : ∀ n, c ≤ n → p n
theorem Semi.congr {p q : Nat → Prop} {c : Nat} (h : Semi p c) (e : ∀ n, p n ↔ q n) : Semi q c := ⟨(e 0).mp h.zero, fun a b ha hb => (e _).mp (h.add a b ((e a).mpr ha) ((e b).mpr hb)), fun n hn => (e n).mp (h.big n hn)⟩
theorem Semi.sm {p : Nat → Prop} {c : Nat} (h : Semi p c) {l : List Nat} (hl : ∀ a ∈ l, p a) {n : Nat} (hn : Sm l n) : p n := by
  induction hn with
  | zero => exact h.zero
  | add ha _ ih => exact h.add _ _ ih (hl _ ha)
open Classical in
/-- the members of a kind up to a number -/
noncomputable def upTo (p : Nat → Prop) (k : Nat) : List Nat := ((List.range k).map (· + 1)).filter fun n => decide (p n)
theorem mem_upTo {p : Nat → Prop} {k n : Nat} : n ∈ upTo p k ↔ 1 ≤ n ∧ n ≤ k ∧ p n := by
  unfold upTo
  rw [List.mem_filter, List.mem_map, @decide_eq_true_iff _ (Classical.propDecidable _)]
  constructor
  · rintro ⟨⟨m, hm, rfl⟩, h⟩
    have := List.mem_range.mp hm
    exact ⟨by omega, by omega, h⟩
  · rintro ⟨h1, h2, h3⟩
    exact ⟨⟨n - 1, List.mem_range.mpr (by omega), by omega⟩, h3⟩
theorem upTo_len (p : Nat → Prop) (k : Nat) : (upTo p k).length ≤ k := by
  unfold upTo
  refine Nat.le_trans (List.length_filter_le _ _) ?_
  rw [List.length_map, List.length_range]
  exact Nat.le_refl _
/-- all members are sums of those up to c + a, a a member -/
theorem Semi.upTo_sm {p : Nat → Prop} {c a k : Nat} (h : Semi p c) (ha : p a) (h1 : 1 ≤ a) (hak : a ≤ k) (hk : c + a ≤ k + 1) (n : Nat) : Sm (upTo p k) n ↔ p n := by
  constructor
  · exact fun hn => h.sm (fun b hb => (mem_upTo.mp hb).2.2) hn
  · induction n using Nat.strongRecOn with
    | _ n ih =>
      intro hp
      by_cases h0 : n = 0
      · rw [h0]; exact .zero
      by_cases hn : n ≤ k
      · exact .one (mem_upTo.mpr ⟨by omega, hn, hp⟩)
      · have h2 := ih (n - a) (by omega) (h.big _ (by omega))
        have h3 : Sm (upTo p k) a := .one (mem_upTo.mpr ⟨h1, by omega, ha⟩)
        have := h3.plus h2
        rwa [show a + (n - a) = n by omega] at this
theorem gcd_consec {l : List Nat} {a : Nat} (h1 : a ∈ l) (h2 : a + 1 ∈ l) : gcdL l = 1 := by
  have := Nat.dvd_sub (gcdL_dvd h2) (gcdL_dvd h1)
  rw [Nat.add_sub_cancel_left] at this
  exact Nat.dvd_one.mp this
/-- every such kind has its base -/
theorem Semi.base {p : Nat → Prop} {c : Nat} (h : Semi p c) : ∃ l, Base l ∧ ∀ n, Sm l n ↔ p n := by
  refine ⟨baseL (upTo p (2 * c + 2)), baseL_base (fun a ha => (mem_upTo.mp ha).1) (fun e => ?_) ?_, fun n => ?_⟩
  · have : c + 1 ∈ upTo p (2 * c + 2) := mem_upTo.mpr ⟨by omega, by omega, h.big _ (by omega)⟩
    rw [e] at this
    cases this
  · exact gcd_consec (a := c + 1) (mem_upTo.mpr ⟨by omega, by omega, h.big _ (by omega)⟩) (mem_upTo.mpr ⟨by omega, by omega, h.big _ (by omega)⟩)
  · rw [sm_baseL]
    exact h.upTo_sm (a := c + 1) (h.big _ (by omega)) (by omega) (by omega) (by omega) n
theorem Base.semi {l : List Nat} (b : Base l) : Semi (Sm l) (topL l + 1).toNat := ⟨.zero, fun _ _ h g => h.plus g, fun n hn => (topL_ok b).up n (by omega)⟩
open Classical in
/-- the base of a kind -/
noncomputable def baseP (p : Nat → Prop) : List Nat := if h : ∃ l, Base l ∧ ∀ n, Sm l n ↔ p n then h.choose else [1]
theorem Semi.baseP {p : Nat → Prop} {c : Nat} (h : Semi p c) : Base (MS.baseP p) ∧ ∀ n, Sm (MS.baseP p) n ↔ p n := by
  have := h.base
  unfold MS.baseP
  rw [dif_pos this]
  exact this.choose_spec
theorem baseP_is {p : Nat → Prop} {l : List Nat} (b : Base l) (h : ∀ n, Sm l n ↔ p n) : baseP p = l := by
  have : ∃ l, Base l ∧ ∀ n, Sm l n ↔ p n := ⟨l, b, h⟩
  unfold baseP
  rw [dif_pos this]
  exact this.choose_spec.1.uniq b fun n => by rw [this.choose_spec.2, h]
/-- the least member is the first one -/
theorem Base.hd_min {l : List Nat} (b : Base l) {n : Nat} (h : Sm l n) (hn : 1 ≤ n) : hd l ≤ n := by
  cases h with
  | zero => omega
  | add ha _ =>
    have := so_hd b.so _ ha
    omega
/-- members of a base lie below its conductor and its first member -/
theorem Base.le_top {l : List Nat} (b : Base l) {a : Nat} (ha : a ∈ l) : (a : Int) ≤ topL l + hd l + 1 := by
  by_cases h1 : a = hd l
  · have := topL_lo b
    omega
  · obtain ⟨i, hi, e⟩ := List.mem_iff_getElem.mp ha
    have hlt := b.hd_le a ha
    by_cases hc : (a : Int) ≤ topL l + hd l
    · omega
    · exfalso
      have hs : Sm l (a - hd l) := (topL_ok b).up _ (by omega)
      have hpos := b.hd_pos
      -- a would be a sum of lesser members
      have hsm : Sm (l.take i) (a - hd l) := by
        refine (sm_list.mpr ?_)
        obtain ⟨ms, h2, h3⟩ := sm_list.mp hs
        refine ⟨ms, fun x hx => ?_, h3⟩
        have hxl := h2 x hx
        obtain ⟨j, hj, ej⟩ := List.mem_iff_getElem.mp hxl
        have hxle : x ≤ a - hd l := by
          rw [← h3]
          clear h3 h2
          induction ms with
          | nil => cases hx
          | cons m ms ih =>
            rcases List.mem_cons.mp hx with rfl | hx
            · show _ ≤ _ + _; omega
            · have := ih hx
              show _ ≤ _ + _; omega
        have hji : j < i := by
          apply Nat.lt_of_not_le
          intro hle
          by_cases hje : j = i
          · subst hje; omega
          · have := List.pairwise_iff_getElem.mp b.so i j hi hj (by omega)
            omega
        rw [List.mem_take_iff_getElem]
        exact ⟨j, by omega, ej⟩
      have h0 : hd l ∈ l.take i := by
        cases l with
        | nil => cases ha
        | cons c r =>
          cases i with
          | zero => exact absurd e.symm h1
          | succ i => exact List.mem_cons_self
      have := (Sm.one h0).plus hsm
      rw [show hd l + (a - hd l) = a by omega] at this
      exact b.min i a (by rw [List.getElem?_eq_getElem hi, e]) this
end MS

namespace MS
theorem filter_head {q : Nat → Bool} {m j : Nat} (hj : j < m) (h1 : q j = true) (h0 : ∀ i, i < j → q i = false) : ((List.range m).filter q)[0]? = some j := by
  obtain ⟨b, rfl⟩ : ∃ b, m = j + (b + 1) := ⟨m - j - 1, by omega⟩
  rw [List.range_add, List.filter_append]
  have e : (List.range j).filter q = [] := List.filter_eq_nil_iff.mpr fun i hi => by rw [h0 i (List.mem_range.mp hi)]; exact Bool.false_ne_true
  rw [e, List.nil_append, List.range_succ_eq_map, List.map_cons, List.filter_cons, Nat.add_zero, if_pos h1]
  rfl
theorem upTo_map {p : Nat → Prop} {q : Nat → Bool} {k : Nat} (h : ∀ i, i < k → (q i = true ↔ p (i + 1))) : ((List.range k).filter q).map (fun i => i + 1) = upTo p k := by
  unfold upTo
  rw [List.filter_map]
  congr 1
  apply List.filter_congr
  intro i hi
  have := h i (List.mem_range.mp hi)
  rw [Bool.eq_iff_iff, this]
  exact (@decide_eq_true_iff _ (Classical.propDecidable _)).symm
end MS
namespace G
open PySem L2 RT PySem.Spec PyProof.Rows NdefX MS
section
variable {P : Program} {w : World} {K : PySem.W.Frag} {mg : Str → Option Value} {base : Heap} {T : List Tb} {C : CC K T} {S : SS} {F : FP} {Pst : SV → FP → Prop} {t : TA} {k i : Nat} {pre : Int → Prop} {φ : Int → SV}
def FunOf (F F1 : FP) (xs : List SV) (pre : Int → Prop) (φ : Int → SV) (k : SV → Prop) : Prop := F1 = F ∧ ∃ n, xs = [dI n] ∧ pre n ∧ k (φ n)
theorem fun_go {n : Int} {k : SV → Prop} (hp : pre n) (h : k (φ n)) : FunOf F F [dI n] pre φ k := ⟨rfl, n, rfl, hp, h⟩
theorem tj_callFE (hS : S[i]? = some (some (cloV P w K mg base k T pre φ))) (h : TL C t S F fun xs F1 => FunOf F F1 xs pre φ fun x => Pst x F) : TJ C (tCallF P w K mg base k i t) S F Pst :=
  tj_callF hS fun σ H rs as Q q => h σ H rs as Q fun vs H' xs F' e a r ⟨ef, n, ex, hp, kk⟩ => q vs H' xs F' e a r ⟨ef, n, ex, hp, fun x ey => ey ▸ kk⟩
/-- where functions of numbers are asked -/
abbrev dom : Int → Prop := fun n => 1 ≤ n ∧ n ≤ 100000
/-- base_of_sums -/
abbrev F_bos (P : Program) (w : World) (K : PySem.W.Frag) (mg : Str → Option Value) (base : Heap) (T : List Tb) (k : Nat) : CF ((Int → Bool) × Int × List Nat) := cf3 2 (fun (φ : Int → Bool) (bound : Int) (_ : List Nat) => [cloV P w K mg base k T dom (fun n => dB (φ n)), dI bound])
  (fun φ bound l => (Base l ∧ MS.hd l ≤ 60) ∧ (∀ n : Nat, 1 ≤ n → n ≤ 100000 → (φ n = true ↔ Sm l n)) ∧ (0 ≤ bound ∧ bound ≤ 1900) ∧ ∀ n : Nat, bound < n → Sm l n) (fun _ _ l => tN l)
theorem capts (l : List SV) (h : l.all (fun x => match x with | .d _ => true | .o _ _ => true | _ => false) = true) : ∀ x ∈ l, Capt x := fun x hx => by
  have := List.all_eq_true.mp h x hx
  cases x with
  | d x => exact .d x
  | o C fs => exact .o C fs
  | _ => cases this
end
end G

namespace G
open PySem L2 RT PySem.Spec PyProof.Rows MS
/-! ### tuple(e for t in it if c): the reading -/
theorem dqs_snoc {K : PySem.W.Frag} {H : Hp} : ∀ {vs : List V} {ds : List PyData} {y : V} {d : PyData}, DqAll K H vs ds → Dq K H y d → DqAll K H (vs ++ [y]) (ds ++ [d])
  | _, _, _, _, .nil, h => .cons h .nil
  | _, _, _, _, .cons a b, h => .cons a (dqs_snoc b h)
section
variable {K : PySem.W.Frag} {T : List Tb} {C : CC K T} {S : SS} {F : FP} {P : SV → FP → Prop} {te : TE} {tt : TT}
def GenT2 (C : CC K T) (tt : TT) (te : TE) (S0 : SS) (F0 : FP) (b : Bool) (x : SV) : SS → FP → Prop := fun S2 F2 => KeepS S0 S2 ∧ F2 = F0 ∧ TB C tt S2 F0 (IsB b F0) ∧ (b = true → TJ C te S2 F0 (Is x F0))
theorem genT2_go {S0 : SS} {b : Bool} {x : SV} (hk : KeepS S0 S) (h1 : TB C tt S F (IsB b F)) (h2 : b = true → TJ C te S F (Is x F)) : GenT2 C tt te S0 F b x S F := ⟨hk, rfl, h1, h2⟩
theorem tj_tupX {Pt : Addr} {wi : TI} {g : TG} {N : List Str} {js : List Nat} (hP : TabOne T Pt) {α : Type} {l : List α} {enc : α → SV} {bb : α → Bool} {f : α → PyData} (hi : IT C wi S F (IsL (l.map enc) F)) (hz : Lng l.length)
    (ht : Turn l fun a => TGJ C g (enc a) (startS N js S) F (GenT2 C tt te (startS N js S) F (bb a) (.d (f a)))) (k : P (.d (.tuple ((l.filter bb).map f))) F) : TJ C (tTupG Pt wi g tt te N js) S F P := fun σ H rs as Q q => by
  refine hi σ H rs as _ fun J H1 F1 ys Gd Yr e1 a1 W hG hY ⟨ey, ef⟩ => ?_
  subst ey ef
  refine ⟨a1.tab _ hP.1, fun H2 htab => ?_⟩
  obtain ⟨e2, a2⟩ := a1.tabbed hP htab
  refine ⟨l.length, fun i vs σg H3 => RS K (C.hid F1 H3) (startS N js S) σg ∧ Ev C F1 H1 F1 H3 ∧ As C F1 H3 ∧ DqAll K (C.hid F1 H3) vs (((l.take i).filter bb).map f), Nat.le_trans (Nat.le_of_lt hz) (by decide), ⟨rs_startS (rs.sub (e1.trans e2)), e2, a2, .nil⟩, ⟨fun i vs σg H3 hi ⟨rs3, e3, a3, d3⟩ => ?_, fun vs σg H3 ⟨_, e3, a3, _⟩ => ?_⟩, fun vs σg H3 ⟨_, e3, a3, d3⟩ p hp => ?_⟩
  · have hil : i < (l.map enc).length := by rw [List.length_map]; exact hi
    have gd := hG _ H3 e3 a3
    refine ⟨W.goes i H3 hil gd, fun x H4 y4 => ?_⟩
    obtain ⟨e4, a4, y, ey, ry⟩ := hY i H3 x H4 _ e3 a3 hil (W.yields i H3 x H4 hil gd y4)
    rw [List.getElem?_map] at ey
    obtain ⟨a, ha, rfl⟩ := Option.map_eq_some_iff.mp ey
    have et : l.take (i + 1) = l.take i ++ [a] := by rw [List.take_add_one, ha]; rfl
    refine ht a (List.mem_of_getElem? ha) σg H4 x (rs3.sub e4) a4 ry _ fun σ5 H5 S5 F5 e5 rs5 a5 ⟨k5, ef5, t5, t6⟩ => ?_
    subst ef5
    refine t5 σ5 H5 rs5 a5 _ fun b H6 F6 e6 a6 ⟨eb, ef6⟩ => ?_
    subst ef6
    have e46 := (e4.trans e5).trans e6
    refine ⟨fun hb => ?_, fun hb => ?_⟩
    · have hbb : bb a = true := eb.symm.trans hb
      refine t6 hbb σ5 H6 (rs5.sub e6) a6 _ fun v H7 z F7 e7 a7 r7 ⟨ez, ef7⟩ => ?_
      subst ef7 ez
      refine ⟨RS.keepS k5 ((rs5.sub e6).sub e7), (e3.trans e46).trans e7, a7, ?_⟩
      rw [et, List.filter_append, List.map_append, List.filter_cons, if_pos hbb]
      exact dqs_snoc (dps_sub (e46.trans e7) d3) r7
    · have hbb : bb a = false := eb.symm.trans hb
      refine ⟨RS.keepS k5 (rs5.sub e6), e3.trans e46, a6, ?_⟩
      rw [et, List.filter_append, List.filter_cons, hbb, if_neg Bool.false_ne_true, List.filter_nil, List.append_nil]
      exact dps_sub e46 d3
  · have := W.stops H3 (hG _ H3 e3 a3)
    rwa [List.length_map] at this
  · rw [List.take_length] at d3
    obtain ⟨e4, a4, r4⟩ := a3.newT hp d3
    exact q _ _ _ F1 ((e1.trans e3).trans e4) a4 r4 k
def GenR (C : CC K T) (tt : TT) (te : TE) (S0 : SS) (F0 : FP) (b : Bool) (ρ : PyData → Prop) : SS → FP → Prop := fun S2 F2 => KeepS S0 S2 ∧ F2 = F0 ∧ TB C tt S2 F0 (IsB b F0) ∧ (b = true → TJ C te S2 F0 fun x F' => F' = F0 ∧ ∃ d, x = .d d ∧ ρ d)
theorem genR_go {S0 : SS} {b : Bool} {ρ : PyData → Prop} (hk : KeepS S0 S) (h1 : TB C tt S F (IsB b F)) (h2 : b = true → TJ C te S F fun x F' => F' = F ∧ ∃ d, x = .d d ∧ ρ d) : GenR C tt te S0 F b ρ S F := ⟨hk, rfl, h1, h2⟩
theorem paired_snoc {α β : Type} {ρ : α → β → Prop} : ∀ {l : List α} {m : List β} {a : α} {b : β}, Paired ρ l m → ρ a b → Paired ρ (l ++ [a]) (m ++ [b])
  | _, _, _, _, .nil, h => .cons h .nil
  | _, _, _, _, .cons p q, h => .cons p (paired_snoc q h)
theorem tj_tupR {Pt : Addr} {wi : TI} {g : TG} {N : List Str} {js : List Nat} (hP : TabOne T Pt) {α : Type} {l : List α} {enc : α → SV} {bb : α → Bool} {ρ : α → PyData → Prop} (hi : IT C wi S F (IsL (l.map enc) F)) (hz : Lng l.length)
    (ht : Turn l fun a => TGJ C g (enc a) (startS N js S) F (GenR C tt te (startS N js S) F (bb a) (ρ a))) (k : ∀ ds, Paired ρ (l.filter bb) ds → P (.d (.tuple ds)) F) : TJ C (tTupG Pt wi g tt te N js) S F P := fun σ H rs as Q q => by
  refine hi σ H rs as _ fun J H1 F1 ys Gd Yr e1 a1 W hG hY ⟨ey, ef⟩ => ?_
  subst ey ef
  refine ⟨a1.tab _ hP.1, fun H2 htab => ?_⟩
  obtain ⟨e2, a2⟩ := a1.tabbed hP htab
  refine ⟨l.length, fun i vs σg H3 => RS K (C.hid F1 H3) (startS N js S) σg ∧ Ev C F1 H1 F1 H3 ∧ As C F1 H3 ∧ ∃ ds, DqAll K (C.hid F1 H3) vs ds ∧ Paired ρ ((l.take i).filter bb) ds, Nat.le_trans (Nat.le_of_lt hz) (by decide), ⟨rs_startS (rs.sub (e1.trans e2)), e2, a2, [], .nil, .nil⟩, ⟨fun i vs σg H3 hi ⟨rs3, e3, a3, ds, d3, p3⟩ => ?_, fun vs σg H3 ⟨_, e3, a3, _⟩ => ?_⟩, fun vs σg H3 ⟨_, e3, a3, ds, d3, p3⟩ p hp => ?_⟩
  · have hil : i < (l.map enc).length := by rw [List.length_map]; exact hi
    have gd := hG _ H3 e3 a3
    refine ⟨W.goes i H3 hil gd, fun x H4 y4 => ?_⟩
    obtain ⟨e4, a4, y, ey, ry⟩ := hY i H3 x H4 _ e3 a3 hil (W.yields i H3 x H4 hil gd y4)
    rw [List.getElem?_map] at ey
    obtain ⟨a, ha, rfl⟩ := Option.map_eq_some_iff.mp ey
    have et : l.take (i + 1) = l.take i ++ [a] := by rw [List.take_add_one, ha]; rfl
    refine ht a (List.mem_of_getElem? ha) σg H4 x (rs3.sub e4) a4 ry _ fun σ5 H5 S5 F5 e5 rs5 a5 ⟨k5, ef5, t5, t6⟩ => ?_
    subst ef5
    refine t5 σ5 H5 rs5 a5 _ fun b H6 F6 e6 a6 ⟨eb, ef6⟩ => ?_
    subst ef6
    have e46 := (e4.trans e5).trans e6
    refine ⟨fun hb => ?_, fun hb => ?_⟩
    · have hbb : bb a = true := eb.symm.trans hb
      refine t6 hbb σ5 H6 (rs5.sub e6) a6 _ fun v H7 z F7 e7 a7 r7 ⟨ef7, d, ez, hρ⟩ => ?_
      subst ef7 ez
      refine ⟨RS.keepS k5 ((rs5.sub e6).sub e7), (e3.trans e46).trans e7, a7, ds ++ [d], dqs_snoc (dps_sub (e46.trans e7) d3) r7, ?_⟩
      rw [et, List.filter_append, List.filter_cons, if_pos hbb]
      exact paired_snoc p3 hρ
    · have hbb : bb a = false := eb.symm.trans hb
      refine ⟨RS.keepS k5 (rs5.sub e6), e3.trans e46, a6, ds, dps_sub e46 d3, ?_⟩
      rw [et, List.filter_append, List.filter_cons, hbb, if_neg Bool.false_ne_true, List.filter_nil, List.append_nil]
      exact p3
  · have := W.stops H3 (hG _ H3 e3 a3)
    rwa [List.length_map] at this
  · rw [List.take_length] at p3
    obtain ⟨e4, a4, r4⟩ := a3.newT hp d3
    exact q _ _ _ F1 ((e1.trans e3).trans e4) a4 r4 (k ds p3)
/-- .. without a test, each element of its kind -/
theorem tj_tupQ {Pt : Addr} {wi : TI} {g : TG} {N : List Str} {js : List Nat} (hP : TabOne T Pt) {α : Type} {l : List α} {enc : α → SV} {ρ : α → PyData → Prop} (hi : IT C wi S F (IsL (l.map enc) F)) (hz : Lng l.length)
    (ht : Turn l fun a => TGJ C g (enc a) (startS N js S) F fun S2 F2 => KeepS (startS N js S) S2 ∧ F2 = F ∧ TJ C te S2 F fun x F' => F' = F ∧ ∃ d, x = .d d ∧ ρ a d) (k : ∀ ds, Paired ρ l ds → P (.d (.tuple ds)) F) : TJ C (tTupG Pt wi g tYes te N js) S F P :=
  tj_tupR (bb := fun _ => true) (ρ := ρ) hP hi hz (fun a ha => tgj_w (ht a ha) fun S2 F2 ⟨hk, ef, h⟩ => ⟨hk, ef, tb_yes ⟨rfl, rfl⟩, fun _ => h⟩) (by rw [fil_true]; exact k)
def GenM2 (C : CC K T) (te : TE) (S0 : SS) (F0 : FP) (x : SV) : SS → FP → Prop := fun S2 F2 => KeepS S0 S2 ∧ F2 = F0 ∧ TJ C te S2 F0 (Is x F0)
theorem tj_tupY {Pt : Addr} {wi : TI} {g : TG} {N : List Str} {js : List Nat} (hP : TabOne T Pt) {α : Type} {l : List α} {enc : α → SV} {f : α → PyData} (hi : IT C wi S F (IsL (l.map enc) F)) (hz : Lng l.length)
    (ht : Turn l fun a => TGJ C g (enc a) (startS N js S) F (GenE C te (startS N js S) F (.d (f a)))) (k : P (.d (.tuple (l.map f))) F) : TJ C (tTupG Pt wi g tYes te N js) S F P :=
  tj_tupX (bb := fun _ => true) (f := f) hP hi hz (fun a ha => tgj_w (ht a ha) fun S2 F2 ⟨hk, ef, h⟩ => ⟨hk, ef, tb_yes ⟨rfl, rfl⟩, fun _ => h⟩) (by rw [fil_true]; exact k)
end
end G

namespace G
open PySem L2 RT PySem.Spec PyProof.Rows MS
section
variable {K : PySem.W.Frag} {T : List Tb}
/-- is_worded -/
abbrev F_worded : CF (PyData × Str × Int) := cf3 3 (fun v w k => [.d v, .d (.str w), dI k]) (fun v w k => (∃ m, m ≤ 60 ∧ OkD m v) ∧ PyData.canLay0 (.str w) = true ∧ 1 ≤ k) (fun v w k => dB (wordD v w k))
theorem i_worded : ∀ vs H Q E, F_worded.sp K T vs H Q E → (cP3 (fun v w n => (∃ m, m ≤ 60 ∧ OkD m v) ∧ (∃ x, w = .str x ∧ PyData.canLay0 (.str x) = true) ∧ ∃ k : Int, n = .int k ∧ 1 ≤ k) (fun v w n => .bool (wordD v (strOf w) (intOf n)))).sp K T vs H Q E :=
  cf_ct rfl (fun a h => ⟨_, _, _, rfl, h.1, ⟨_, rfl, h.2.1⟩, _, rfl, h.2.2⟩) fun a y F h ⟨ef, hf⟩ => ⟨ef, hf _ _ _ rfl ⟨h.1, ⟨_, rfl, h.2.1⟩, _, rfl, h.2.2⟩⟩
/-- is_way -/
abbrev F_way : CF (List Nat × Int × PyData) := cf3 3 (fun l n c => [tN l, dI n, .d c]) (fun l _ _ => BaseB l) (fun l n c => dB (wayL l n c))
theorem i_way : ∀ vs H Q E, F_way.sp K T vs H Q E → (cP3 (fun b n c => (∃ l, b = .tuple (pN l) ∧ BaseB l) ∧ ∃ i, n = .int i) (fun b n c => .bool (wayL (natsOf b) (intOf n) c))).sp K T vs H Q E :=
  cf_ct rfl (fun a h => ⟨_, _, _, rfl, ⟨_, rfl, h⟩, _, rfl⟩) fun a y F h ⟨ef, hf⟩ => ⟨ef, by
    rw [hf _ _ _ rfl ⟨⟨_, rfl, h⟩, _, rfl⟩]; dsimp only; rw [natsOf_pN]; rfl⟩
abbrev F_adds : CF (List Nat × Int × PyData) := cf3 3 (fun l n c => [tN l, dI n, .d c]) (fun l _ c => BaseB l ∧ ∃ m, Ok m c) (fun l n c => dB (wayL l n c))
theorem i_adds : ∀ vs H Q E, F_adds.sp K T vs H Q E → (cP3 (fun b n c => (∃ l, b = .tuple (pN l) ∧ BaseB l) ∧ (∃ i, n = .int i) ∧ ∃ m, Ok m c) (fun b n c => .bool (wayL (natsOf b) (intOf n) c))).sp K T vs H Q E :=
  cf_ct rfl (fun a h => ⟨_, _, _, rfl, ⟨_, rfl, h.1⟩, ⟨_, rfl⟩, h.2⟩) fun a y F h ⟨ef, hf⟩ => ⟨ef, by
    rw [hf _ _ _ rfl ⟨⟨_, rfl, h.1⟩, ⟨_, rfl⟩, h.2⟩]; dsimp only; rw [natsOf_pN]; rfl⟩
/-- is_kept_out -/
abbrev F_kept : CF (List Nat × Int × PyData) := cf3 3 (fun l n c => [tN l, dI n, .d c]) (fun l _ _ => BaseB l) (fun l n c => dB (keptL l n c))
theorem i_kept : ∀ vs H Q E, F_kept.sp K T vs H Q E → (cP3 (fun b n c => (∃ l, b = .tuple (pN l) ∧ BaseB l) ∧ ∃ i, n = .int i) (fun b n c => .bool (keptL (natsOf b) (intOf n) c))).sp K T vs H Q E :=
  cf_ct rfl (fun a h => ⟨_, _, _, rfl, ⟨_, rfl, h⟩, _, rfl⟩) fun a y F h ⟨ef, hf⟩ => ⟨ef, by
    rw [hf _ _ _ rfl ⟨⟨_, rfl, h⟩, _, rfl⟩]; dsimp only; rw [natsOf_pN]; rfl⟩
abbrev F_keeps : CF (List Nat × Int × PyData) := cf3 3 (fun l n c => [tN l, dI n, .d c]) (fun l _ c => BaseB l ∧ ∃ m, Ok m c) (fun l n c => dB (keptL l n c))
theorem i_keeps : ∀ vs H Q E, F_keeps.sp K T vs H Q E → (cP3 (fun b n c => (∃ l, b = .tuple (pN l) ∧ BaseB l) ∧ (∃ i, n = .int i) ∧ ∃ m, Ok m c) (fun b n c => .bool (keptL (natsOf b) (intOf n) c))).sp K T vs H Q E :=
  cf_ct rfl (fun a h => ⟨_, _, _, rfl, ⟨_, rfl, h.1⟩, ⟨_, rfl⟩, h.2⟩) fun a y F h ⟨ef, hf⟩ => ⟨ef, by
    rw [hf _ _ _ rfl ⟨⟨_, rfl, h.1⟩, ⟨_, rfl⟩, h.2⟩]; dsimp only; rw [natsOf_pN]; rfl⟩
end
end G

namespace MS
theorem gcd_sub {l m : List Nat} (h : ∀ a ∈ l, a ∈ m) (g : gcdL l = 1) : gcdL m = 1 := by
  have d : gcdL m ∣ gcdL l := by
    clear g
    induction l with
    | nil => exact Nat.dvd_zero _
    | cons a l ih => exact Nat.dvd_gcd (gcdL_dvd (h a List.mem_cons_self)) (ih fun b hb => h b (List.mem_cons_of_mem _ hb))
  rw [g] at d
  exact Nat.dvd_one.mp d
theorem topL_le {l : List Nat} (b : Base l) : topL l ≤ hd l * lst l := by
  apply Int.not_lt.mp
  intro h
  have := smIb_top b
  rw [Bool.eq_false_iff] at this
  apply this
  obtain ⟨n, hn⟩ := Int.eq_ofNat_of_zero_le (show 0 ≤ topL l by have := Int.natCast_nonneg (hd l * lst l); rw [← Int.natCast_mul] at h; omega)
  rw [hn, smIb_nat]
  rw [hn, ← Int.natCast_mul] at h
  exact smb_iff.mpr (b.big (by omega))
theorem bos_first {l : List Nat} (b : Base l) {φ : Int → Bool} {k : Nat} (hφ : ∀ n : Nat, 1 ≤ n → n ≤ 100000 → (φ n = true ↔ Sm l n)) (h : hd l ≤ k) (hk : k ≤ 100000) : ((List.range k).filter fun (a : Nat) => φ (1 + (a : Int)))[0]? = some (hd l - 1) := by
  have hd1 := b.hd_pos
  refine filter_head (by omega) ?_ fun i hi => ?_
  · rw [show (1 : Int) + ((hd l - 1 : Nat) : Int) = ((hd l : Nat) : Int) by omega]
    exact (hφ _ hd1 (by omega)).mpr (.one (hd_mem b.ne))
  · rw [Bool.eq_false_iff]
    intro z
    rw [show (1 : Int) + (i : Int) = ((i + 1 : Nat) : Int) by omega] at z
    have := b.hd_min ((hφ _ (by omega) (by omega)).mp z) (by omega)
    omega
theorem bos_list {p : Nat → Prop} {φ : Int → Bool} {k : Nat} (hφ : ∀ n : Nat, 1 ≤ n → n ≤ 100000 → (φ n = true ↔ p n)) (hk : k ≤ 100000) : (((List.range k).filter fun (a : Nat) => φ (1 + (a : Int))).map fun (a : Nat) => PySem.PyData.int (1 + (a : Int))) = G.pN (upTo p k) := by
  rw [← upTo_map (q := fun (a : Nat) => φ (1 + (a : Int))) fun i hi => ?_]
  · rw [G.pN, List.map_map]
    exact List.map_congr_left fun a _ => congrArg PySem.PyData.int (by dsimp only [Function.comp]; omega)
  · rw [show (1 : Int) + (i : Int) = ((i + 1 : Nat) : Int) by omega]
    exact hφ _ (by omega) (by omega)
theorem base_upTo {l : List Nat} (b : Base l) {p : Nat → Prop} (hp : ∀ n, p n ↔ Sm l n) {c k : Nat} (hbig : ∀ n, c ≤ n → Sm l n) (hk : c + hd l ≤ k + 1) (hk2 : hd l ≤ k) : baseL (upTo p k) = l := by
  have hs : Semi (Sm l) c := ⟨.zero, fun _ _ h g => h.plus g, hbig⟩
  have e : upTo p k = upTo (Sm l) k := by
    unfold upTo
    exact List.filter_congr fun n _ => by rw [decide_eq_decide]; exact hp n
  rw [e, ← baseL_of b]
  conv => rhs; rw [baseL_of b, ← baseL_of b]
  refine baseL_congr (fun n => ?_) (fun a ha => (mem_upTo.mp ha).1) b.pos
  rw [baseL_of b]
  exact hs.upTo_sm (a := hd l) (.one (hd_mem b.ne)) b.hd_pos hk2 hk n
end MS
namespace G
open PySem L2 RT PySem.Spec PyProof.Rows MS NdefX StX
/-- a drawn base, wider -/
structure BaseT (l : List Nat) : Prop where
  b : Base l
  hd : MS.hd l ≤ 30
  le : ∀ a ∈ l, a ≤ 145
  len : l.length ≤ 12
theorem BaseT.B {l : List Nat} (h : BaseT l) : BaseB l := ⟨h.b, by have := h.hd; omega, fun a ha => by have := h.le a ha; omega, by have := h.len; omega⟩
theorem BaseS.T {l : List Nat} (h : BaseS l 8) : BaseT l := ⟨h.b, by have := h.hd; omega, fun a ha => by have := h.le a ha; omega, by have := h.len; omega⟩
theorem BaseT.of {ns : List Nat} (hp : ∀ a ∈ ns, 1 ≤ a ∧ a ≤ 145) (hg : gcdL ns = 1) (hl : ns.length ≤ 12) {a : Nat} (ha : a ∈ ns) (h30 : a ≤ 30) : BaseT (baseL ns) := by
  have hne : ns ≠ [] := fun e => by rw [e] at ha; cases ha
  have hB := baseL_base (fun a ha => (hp a ha).1) hne hg
  refine ⟨hB, ?_, fun a ha => (hp a (baseL_mem a ha)).2, Nat.le_trans (baseL_len _) hl⟩
  have := hB.hd_min ((sm_baseL ns a).mpr (.one ha)) (hp a ha).1
  omega
/-- the members of both -/
abbrev both (l m : List Nat) : Nat → Prop := fun n => Sm l n ∧ Sm m n
theorem both_semi {l m : List Nat} (hl : Base l) (hm : Base m) : Semi (both l m) (max (topL l) (topL m) + 1).toNat :=
  ⟨⟨.zero, .zero⟩, fun a b ha hb => ⟨ha.1.plus hb.1, ha.2.plus hb.2⟩, fun n hn => ⟨(topL_ok hl).up n (by omega), (topL_ok hm).up n (by omega)⟩⟩
/-- the meeting's base -/
noncomputable def meetL (l m : List Nat) : List Nat := baseP (both l m)
theorem meet_base {l m : List Nat} (hl : Base l) (hm : Base m) : Base (meetL l m) ∧ ∀ n, Sm (meetL l m) n ↔ both l m n := (both_semi hl hm).baseP
theorem meet_hd {l m : List Nat} (hl : Base l) (hm : Base m) {x : Nat} (h : both l m x) (h1 : 1 ≤ x) : MS.hd (meetL l m) ≤ x := (meet_base hl hm).1.hd_min (((meet_base hl hm).2 x).mpr h) h1
theorem sm_times {l : List Nat} {a : Nat} (h : a ∈ l) : ∀ k : Nat, Sm l (k * a)
  | 0 => by rw [Nat.zero_mul]; exact .zero
  | k + 1 => by rw [Nat.succ_mul]; exact (sm_times h k).plus (.one h)
theorem both_x {l m : List Nat} {a b : Nat} (hl : BaseS l a) (hm : BaseS m b) : ∃ x, 1 ≤ x ∧ x ≤ 60 ∧ both l m x := by
  have h1 := hl.hd
  have h2 := hm.hd
  have h3 := hl.b.hd_pos
  have h4 := hm.b.hd_pos
  by_cases e : MS.hd l = MS.hd m
  · exact ⟨MS.hd l, h3, by omega, .one (hd_mem hl.b.ne), e ▸ .one (hd_mem hm.b.ne)⟩
  · refine ⟨MS.hd l * MS.hd m, Nat.mul_pos h3 h4, ?_, by rw [Nat.mul_comm]; exact sm_times (hd_mem hl.b.ne) _, sm_times (hd_mem hm.b.ne) _⟩
    by_cases h5 : MS.hd l ≤ 7
    · exact Nat.le_trans (Nat.mul_le_mul h5 h2) (by decide)
    · exact Nat.le_trans (Nat.mul_le_mul h1 (show MS.hd m ≤ 7 by omega)) (by decide)
/-- two bases -/
def c_two : CtB := ⟨1, fun mo xs => isPool mo ∧ xs = [], fun mo xs y mo' => isPool mo' ∧ ∃ one two, y = .d (.tuple [.tuple (pN one), .tuple (pN two)]) ∧ BaseT one ∧ BaseT two ∧ ∃ x, 1 ≤ x ∧ x ≤ 60 ∧ both one two x⟩
theorem cl_two {K : PySem.W.Frag} {T : List Tb} {C : CC K T} {P : SV → FP → Prop} {p : Addr} {mo : MO} (hp : isPool mo) (k : ∀ one two mo', BaseT one → BaseT two → MS.hd (meetL one two) ≤ 60 → isPool mo' → P (.d (.tuple [.tuple (pN one), .tuple (pN two)])) [(p, mo')]) : CL C (c_two.sp K T) [.m p] [(p, mo)] P :=
  cl_ctb (c := c_two) rfl (List.Mem.head _) ⟨hp, rfl⟩ fun y mo' ⟨h2, l, m, e, h3, h4, x, h5, h6, h7⟩ => by
    subst e
    rw [setF_one]
    exact k l m mo' h3 h4 (Nat.le_trans (meet_hd h3.b h4.b h7 h5) h6) h2
/-- the paper of a containing -/
def CPaper (l1 l2 : List Nat) (d : PyData) : Prop :=
  ((∀ a ∈ l2, Sm l1 a) ∧ ∃ css : List PyData, d = .tuple [.str "inside", .tuple css] ∧ Paired (fun (a : Nat) c => ∃ cs : List Int, c = .tuple (cs.map .int) ∧ cs.length = l1.length ∧ (∀ i ∈ cs, 0 ≤ i) ∧ dotI l1 cs = a) l2 css) ∨
    ∃ a ∈ l2, ¬ Sm l1 a ∧ d = .tuple [.str "parts", .int a, .tuple (pN (rowL l1))]
def c_cpaper : Ct := ⟨2, fun xs => ∃ l1 l2, xs = [tN l1, tN l2] ∧ BaseB l1 ∧ BaseB l2, fun xs y F => F = [] ∧ ∃ d, y = .d d ∧ ∀ l1 l2, xs = [tN l1, tN l2] → CPaper l1 l2 d⟩
theorem tNN_inj {l k m n : List Nat} (h : [tN l, tN m] = [tN k, tN n]) : l = k ∧ m = n := by
  simp only [List.cons.injEq, SV.d.injEq, PyData.tuple.injEq, and_true] at h
  exact ⟨pN_inj h.1, pN_inj h.2⟩
/-- what is checked -/
def contB (l1 l2 : List Nat) (v : PyData) : Bool := if wordD v "inside" 2 = true then (isTup (itemD v 1) && (decide ((tupOf (itemD v 1)).length = l2.length) && (l2.zip (tupOf (itemD v 1))).all fun p => wayL l1 p.1 p.2))
  else wordD v "parts" 3 && (isIntD (itemD v 1) && (decide (intOf (itemD v 1) ∈ l2.map fun (n : Nat) => (n : Int)) && keptL l1 (intOf (itemD v 1)) (itemD v 2)))
section
variable {K : PySem.W.Frag} {T : List Tb} {C : CC K T} {S : SS} {F : FP} {PL : List SV → FP → Prop} {ta : TE} {tr : TA}
def StarOf (x : SV) (k : List PyData → Prop) : Prop := ∃ ds, (x = .d (.tuple ds) ∨ x = .d (.list ds)) ∧ k ds
theorem star_t {ds : List PyData} {k : List PyData → Prop} (h : k ds) : StarOf (.d (.tuple ds)) k := ⟨ds, .inl rfl, h⟩
theorem star_l {ds : List PyData} {k : List PyData → Prop} (h : k ds) : StarOf (.d (.list ds)) k := ⟨ds, .inr rfl, h⟩
theorem tl_starX (h : TJ C ta S F fun x F1 => StarOf x fun ds => TL C tr S F1 fun xs F2 => PL (ds.map .d ++ xs) F2) : TL C (tStar K ta tr) S F PL := tl_star (tj_w h fun x F1 ⟨ds, hx, k⟩ => ⟨ds, hx, k⟩)
/-- items on items, frozen -/
theorem frz_app {F1 : FP} {ds : List PyData} {xs : List SV} {es : List PyData} (h : FrzAll F xs F1 es) : FrzAll F (ds.map .d ++ xs) F1 (ds ++ es) := by
  induction ds with
  | nil => exact h
  | cons d ds ih => exact .cons (.d d) ih
end
section
variable {P : Program} {w : World} {K : PySem.W.Frag} {mg : Str → Option Value} {base : Heap} {T : List Tb} {C : CC K T} {S : SS} {F : FP} {Pst : SV → FP → Prop} {k : Nat}
/-- x(lambda .., ..): what the caller tells -/
theorem tj_callCL {α : Type} {c : CF α} {cl : List (Str × Addr)} {N fr : List Str} {js : List Nat} {mk : Addr → LF} {te : TE} {Pt : Addr} {q : Str} {t : TA} (hP : TabLam T Pt q) (hcl : ∀ c', (mk c').cl = cl)
    (h : TL C t S F fun rest F1 => F1 = F ∧ ∃ (cap : List SV) (pre : Int → Prop) (φ : Int → SV) (a : α), cap.length = fr.length ∧ (∀ (i : Nat) (x : SV), cap[i]? = some x → Capt x ∧ ∃ j, js[i]? = some j ∧ S[j]? = some (some x)) ∧
      (∀ (C : CC K T) n, pre n → TJ C te (some (dI n) :: (cap.map some ++ List.replicate (N.length - 1 - fr.length) none)) [] (Is (φ n) [])) ∧ c.enc a = cloV P w K mg base k T pre φ :: rest ∧ (c.enc a).length = c.n ∧ c.pre a ∧ Capt (c.val a) ∧ Pst (c.val a) F) :
    TJ C (tCallC cl fr js (c.sp K T) (tCons (tLam P w K mg base Pt q mk k 1 N fr te) t)) S F Pst :=
  tj_callC hcl (tl_cons (tj_lam hP (by
    intro σ H rs as Q qq
    refine h σ H rs as _ fun vs H1 rest F1 e1 a1 r1 ⟨ef, cap, pre, φ, a, z⟩ => qq vs H1 rest F1 e1 a1 r1 ⟨ef, rest, cap, pre, φ, a, rfl, z⟩)))
end
section
variable {X : Cx}
theorem k_dcallL {k : Nat} {x : Str} {ps fr : List Str} {js : List Nat} {sp : Sp} {lp : Arguments} {lb : Expr} {lpos : Pos} {es : List Expr} {t : TA} {p pos : Pos} {scope osc : Scope} {cl : List (Str × Addr)} (h7 : cloFrom X.env.cells scope.names [] = cl) (D : DefOk X.prog X.w X.K X.mg X.base k x ps sp) (hr : Room k X.A) (hg : Gl X x) (hosc : X.env.scope = osc) (hF : ndefB osc scope fr = true) (hjs : js.map (fun j => X.N[j]?) = fr.map some)
    (hab : ∀ y c, X.env.cells.lookup y = some c → X.s_0.heap.objs.size ≤ c) (ha : PA X (.Lambda lp lb scope lpos :: es) t) (hdb : (x == ("__debug__" : Str)) = false := by decide)
    (he : starEach (.Lambda lp lb scope lpos :: es) X.env = (false, eval (.Lambda lp lb scope lpos) X.env) :: starEach es X.env := by rfl) (hpl : (backTo pos (starEach es X.env)).any (·.1) = false := by rfl) :
    PE X (.Call (.Name x p) (.Lambda lp lb scope lpos :: es) [] pos) (tCallC cl fr js sp t) := k_dcallC h7 D hr hg hosc hF hjs hab ha hdb he hpl
end
noncomputable abbrev F_within2 : CF (List Nat × List Nat) := cf2 2 (fun l m => [tN l, tN m]) (fun l m => BaseB l ∧ m.length ≤ 1000) (fun l m => dB (m.all (smb l)))
noncomputable abbrev F_cont : CF (List Nat × List Nat × PyData) := cf3 3 (fun l m v => [tN l, tN m, .d v]) (fun l m v => BaseB l ∧ BaseB m ∧ ∃ n, n ≤ 60 ∧ OkD n v) (fun l m v => dB (contB l m v))
noncomputable abbrev F_join : CF (List Nat × List Nat) := cf2 2 (fun l m => [tN l, tN m]) (fun l m => (∀ a ∈ l, 1 ≤ a ∧ a ≤ 1000000) ∧ (∀ a ∈ m, 1 ≤ a ∧ a ≤ 1000000) ∧ (∃ a ∈ l, a < 64) ∧ l.length ≤ 60 ∧ m.length ≤ 60) (fun l m => tN (baseL (l ++ m)))
noncomputable abbrev F_meet : CF (List Nat × List Nat) := cf2 2 (fun l m => [tN l, tN m]) (fun l m => BaseB l ∧ BaseB m ∧ topL l ≤ 1800 ∧ topL m ≤ 1800 ∧ MS.hd (meetL l m) ≤ 60) (fun l m => tN (meetL l m))
theorem zip_nd : ∀ (m : List Nat) (cs : List PyData), pairs (pN m) cs = (m.zip cs).map fun (p : Nat × PyData) => .d (.tuple [.int (p.1 : Nat), p.2])
  | [], _ => rfl
  | _ :: _, [] => rfl
  | a :: m, c :: cs => congrArg (_ :: ·) (zip_nd m cs)
theorem zip_all {m : List Nat} {cs : List PyData} (h : cs.length = m.length) (f : Nat → PyData → Bool) : (m.zip cs).all (fun p => f p.1 p.2) = (List.range m.length).all fun k => f (m.getD k 0) (cs.getD k .none) := by
  rw [Bool.eq_iff_iff, List.all_eq_true, List.all_eq_true]
  constructor
  · intro h2 k hk
    have hk := List.mem_range.mp hk
    refine h2 (m.getD k 0, cs.getD k .none) (List.mem_of_getElem? (i := k) (List.getElem?_zip_eq_some.mpr ⟨getD_some hk, getD_some (by omega)⟩))
  · rintro h2 ⟨a, c⟩ hp
    obtain ⟨k, hk⟩ := List.getElem?_of_mem hp
    obtain ⟨h3, h4⟩ := List.getElem?_zip_eq_some.mp hk
    have := h2 k (List.mem_range.mpr (List.getElem?_eq_some_iff.mp h3).1)
    rw [List.getD_eq_getElem?_getD, List.getD_eq_getElem?_getD, h3, h4] at this
    exact this
theorem beq_dec {a b : Int} : (a == b) = decide (a = b) := by rw [Bool.eq_iff_iff]; simp
theorem none_all {l : List Nat} {f : Nat → Bool} : decide ((((l.filter fun k => !f k).length : Nat) : Int) = 0) = l.all f := by
  rw [Bool.eq_iff_iff, decide_eq_true_eq, List.all_eq_true]
  constructor
  · intro h a ha
    have h0 := List.filter_eq_nil_iff.mp (List.length_eq_zero_iff.mp (show (l.filter fun k => !f k).length = 0 by omega)) a ha
    simpa using h0
  · intro h
    rw [List.filter_eq_nil_iff.mpr fun a ha => by rw [h a ha]; decide]
    rfl
theorem wordD_len {v : PyData} {w : Str} {k : Int} {i : Nat} (hk : (i : Int) < k) (h : wordD v w k = true) : ∃ ds, v = .tuple ds ∧ ds[i]? = some (itemD v i) := by
  cases v with
  | tuple ds =>
    unfold wordD at h
    simp only [Bool.and_eq_true, decide_eq_true_eq] at h
    refine ⟨ds, rfl, ?_⟩
    have hl : i < ds.length := by omega
    unfold itemD
    dsimp only
    rw [List.getD_eq_getElem?_getD, List.getElem?_eq_getElem hl]
    rfl
  | _ => cases h
theorem getD_in {α : Type} {l : List α} {k : Nat} {d : α} (h : k < l.length) : l.getD k d ∈ l := List.mem_of_getElem? (getD_some h)
theorem kept_row {l : List Nat} (hb : BaseB l) {n : Int} (hs : ¬ SmI l n) {row : List Nat} (hrow : RowN l (MS.hd l) row) : keptL l n (.tuple (pN row)) = true := by
  have := (MPaper.ok hb (.inr ⟨hs, row, rfl, hrow⟩)).1
  unfold memberL at this
  rw [if_neg (by rw [wordD_two]; decide +kernel), Bool.and_eq_true] at this
  exact this.2
theorem way_of {l : List Nat} {n : Int} {cs : List Int} (h1 : cs.length = l.length) (h2 : ∀ i ∈ cs, 0 ≤ i) (h3 : dotI l cs = n) : wayL l n (.tuple (cs.map .int)) = true := by
  unfold wayL
  rw [Bool.and_eq_true]
  refine ⟨countsD_iff.mpr ⟨cs, rfl, by omega, h2⟩, decide_eq_true ?_⟩
  rw [intsOf_map]
  exact h3
theorem wordD_three (a w : Str) (x y : PyData) : wordD (.tuple [.str a, x, y]) w 3 = (a == w) := by
  unfold wordD
  simp
theorem wordD_32 (a w : Str) (x y : PyData) : wordD (.tuple [.str a, x, y]) w 2 = false := by
  unfold wordD
  simp
theorem paired_zip {α β : Type} {ρ : α → β → Prop} {l : List α} {m : List β} (h : Paired ρ l m) : m.length = l.length ∧ ∀ p ∈ l.zip m, ρ p.1 p.2 := by
  induction h with
  | nil => exact ⟨rfl, fun p hp => nomatch hp⟩
  | cons h _ ih =>
    refine ⟨congrArg (· + 1) ih.1, fun p hp => ?_⟩
    rcases List.mem_cons.mp hp with rfl | hp
    · exact h
    · exact ih.2 p hp
theorem CPaper.ok {l1 l2 : List Nat} {d : PyData} (hb : BaseB l1) (hb2 : BaseB l2) (h : CPaper l1 l2 d) : contB l1 l2 d = true ∧ Ok 3 d := by
  have hl1 := hb.len
  have hl2 := hb2.len
  rcases h with ⟨hin, css, rfl, hp⟩ | ⟨a, ha, hs, rfl⟩
  · obtain ⟨hcl, hz⟩ := paired_zip hp
    refine ⟨?_, .tup (by show 2 < 16000000; decide) fun d hd => ?_⟩
    · unfold contB
      rw [if_pos (by rw [wordD_two]; decide +kernel)]
      show (true && (decide (css.length = l2.length) && (l2.zip css).all fun p => wayL l1 p.1 p.2)) = true
      rw [decide_eq_true hcl, Bool.true_and, Bool.true_and, List.all_eq_true]
      intro p hp
      obtain ⟨cs, e, h1, h2, h3⟩ := hz p hp
      rw [e]
      exact way_of h1 h2 h3
    · rcases List.mem_cons.mp hd with rfl | hd
      · exact .str (by decide +kernel)
      · rcases List.mem_cons.mp hd with rfl | hd
        · refine .tup (by omega) fun d hd => ?_
          obtain ⟨k, hk⟩ := List.getElem?_of_mem hd
          have hk2 := (List.getElem?_eq_some_iff.mp hk).1
          obtain ⟨cs, e, h1, _⟩ := hz (l2.getD k 0, d) (List.mem_of_getElem? (i := k) (List.getElem?_zip_eq_some.mpr ⟨getD_some (by omega), hk⟩))
          have e : d = _ := e
          rw [e]
          exact .tup (by rw [List.length_map]; omega) okI
        · cases hd
  · have hr := rowL_ok hb.b
    refine ⟨?_, .tup (by show 3 < 16000000; decide) fun d hd => ?_⟩
    · unfold contB
      rw [wordD_32, if_neg Bool.false_ne_true, wordD_three]
      show (true && (true && (decide ((a : Int) ∈ l2.map fun (n : Nat) => (n : Int)) && keptL l1 (a : Int) (.tuple (pN (rowL l1)))))) = true
      rw [decide_eq_true (List.mem_map.mpr ⟨a, ha, rfl⟩), kept_row hb (fun z => hs (smI_nat.mp z)) hr]
      rfl
    · rcases List.mem_cons.mp hd with rfl | hd
      · exact .str (by decide +kernel)
      · rcases List.mem_cons.mp hd with rfl | hd
        · exact .int
        · rcases List.mem_cons.mp hd with rfl | hd
          · exact .tup (by rw [List.length_map, hr.1]; have := hb.hd; omega) okN
          · cases hd
section
variable {K : PySem.W.Frag} {T : List Tb} {C : CC K T} {F : FP} {P : SV → FP → Prop}
theorem ro_eqS {a b : Str} (ha : PyData.canLay0 (.str a) = true) (hb : PyData.canLay0 (.str b) = true) (k : P (dB (a == b)) F) : RO C (rEqD K) (.d (.str a)) (.d (.str b)) F P :=
  ro_eqN (n := 0) (m := 0) (.str ha) (by decide) (.str hb) (by decide) (.str _) (.str _) fun c hc => by
    have : c = (a == b) := by
      rw [Bool.eq_iff_iff, hc]
      simp
    rw [this]
    exact k
end
theorem CPaper.word {l1 l2 : List Nat} {d : PyData} (h : CPaper l1 l2 d) : ∃ (s : Str) (r : List PyData), d = .tuple (.str s :: r) ∧ PyData.canLay0 (.str s) = true ∧ (s == "inside") = l2.all (smb l1) := by
  rcases h with ⟨hin, css, rfl, _⟩ | ⟨a, ha, hs, rfl⟩
  · refine ⟨_, _, rfl, by decide +kernel, ?_⟩
    rw [show ((("inside" : Str)) == "inside") = true by decide +kernel]
    exact (List.all_eq_true.mpr fun a ha => smb_iff.mpr (hin a ha)).symm
  · refine ⟨_, _, rfl, by decide +kernel, ?_⟩
    rw [show ((("parts" : Str)) == "inside") = false by decide +kernel]
    symm
    rw [Bool.eq_false_iff]
    intro z
    exact hs (smb_iff.mp (List.all_eq_true.mp z a ha))
end G

namespace G
open PySem L2 RT PySem.Spec PyProof.Rows MS
theorem tcs_bd {c : Nat} : ∀ {ds : List PyData}, (∀ d ∈ ds, tc d ≤ c) → tcs ds ≤ (c + 2) * ds.length
  | [], _ => Nat.zero_le _
  | d :: ds, h => by
    have h1 := h d List.mem_cons_self
    have h2 := tcs_bd fun e he => h e (List.mem_cons_of_mem _ he)
    rw [tcs, List.length_cons, Nat.mul_succ]
    omega
theorem tc_ints {ms : List Int} (h : ∀ i ∈ ms, i.natAbs < 2 ^ 60) : tc (.tuple (ms.map .int)) ≤ 3 + 70 * ms.length := by
  have := (ints_tc (n := 0) h).2
  rw [tc]
  omega
theorem tc_int {i : Int} (h : i.natAbs < 2 ^ 60) : tc (.int i) ≤ 68 := by
  have := (ints_tc (n := 0) (ms := [i]) fun j hj => by rw [List.mem_singleton.mp hj]; exact h).2
  rw [List.map_cons, List.map_nil, tcs, tcs] at this
  simp at this
  omega
theorem pl_int {n : Nat} {i : Int} (h : i.natAbs < 2 ^ 60) : Pl n (.int i) := .int (Nat.lt_of_lt_of_le h (Nat.pow_le_pow_right (by decide) (by decide)))
/-- a tuple of words, ints, rows of ints: plain, its text short -/
theorem nice_pl {n : Nat} {d : PyData} (h : Pl n d) (h1 : n ≤ 50) (h2 : tc d ≤ 1000000) : Odd 50 1000000 d := .inl (h.nice.mono h1 h2)
theorem cpaper_pl {l1 l2 : List Nat} {d : PyData} (h1 : BaseT l1) (h2 : BaseT l2) (h : CPaper l1 l2 d) : Pl 3 d ∧ tc d ≤ 100000 := by
  have hl1 := h1.len
  have hl2 := h2.len
  have hb := h1.B
  have hle2 := h2.le
  rcases h with ⟨_, css, rfl, hp⟩ | ⟨a, ha, _, rfl⟩
  · obtain ⟨hcl, hz⟩ := paired_zip hp
    have key : ∀ c ∈ css, ∃ cs : List Int, c = .tuple (cs.map .int) ∧ cs.length = l1.length ∧ ∀ i ∈ cs, i.natAbs < 2 ^ 60 := fun c hc => by
      obtain ⟨k, hk⟩ := List.getElem?_of_mem hc
      have hk2 := (List.getElem?_eq_some_iff.mp hk).1
      have hk3 : k < l2.length := by omega
      obtain ⟨cs, e, g1, g2, g3⟩ := hz (l2.getD k 0, c) (List.mem_of_getElem? (i := k) (List.getElem?_zip_eq_some.mpr ⟨getD_some hk3, hk⟩))
      have := dot_le hb.b.pos g2 g1
      have h5 := hle2 _ (getD_in (d := 0) hk3)
      dsimp only at g3
      exact ⟨cs, e, g1, fun i hi => by have := this.2 i hi; have := g2 i hi; omega⟩
    refine ⟨.tup (by simp) fun d hd => ?_, ?_⟩
    · rcases List.mem_cons.mp hd with rfl | hd
      · exact .str (by decide +kernel)
      · rcases List.mem_cons.mp hd with rfl | hd
        · refine .tup (by omega) fun c hc => ?_
          obtain ⟨cs, rfl, g1, g2⟩ := key c hc
          exact pl_ints g2 (by omega)
        · cases hd
    · have h5 : tcs css ≤ (843 + 2) * css.length := tcs_bd fun c hc => by
        obtain ⟨cs, rfl, g1, g2⟩ := key c hc
        have := tc_ints g2
        omega
      have h6 : tc (.str "inside") ≤ 100 := by decide +kernel
      rw [tc, tcs, tcs, tcs, show tc (.tuple css) = 3 + tcs css by rw [tc]]
      omega
  · have hr := rowL_ok hb.b
    have hd := hb.hd
    have hi : ∀ i ∈ (rowL l1).map (fun (n : Nat) => (n : Int)), i.natAbs < 2 ^ 60 := fun i hi => by
      obtain ⟨v, hv, rfl⟩ := List.mem_map.mp hi
      have := RowN.bd hb hr v hv
      omega
    have hai : (a : Int).natAbs < 2 ^ 60 := by have := hle2 a ha; omega
    rw [pN_ints]
    refine ⟨.tup (by simp) fun d hd => ?_, ?_⟩
    · rcases List.mem_cons.mp hd with rfl | hd
      · exact .str (by decide +kernel)
      · rcases List.mem_cons.mp hd with rfl | hd
        · exact pl_int hai
        · rcases List.mem_cons.mp hd with rfl | hd
          · exact pl_ints hi (by rw [List.length_map, hr.1]; omega)
          · cases hd
    · have h5 := tc_ints hi
      have h6 : tc (.str "parts") ≤ 100 := by decide +kernel
      have h7 := tc_int hai
      rw [List.length_map, hr.1] at h5
      rw [tc, tcs, tcs, tcs, tcs]
      omega
/-- ('parts', a, row) -/
theorem odd_parts {a : Int} {ms : List Int} (ha : a.natAbs < 2 ^ 60) (h : ∀ i ∈ ms, i.natAbs < 2 ^ 60) (hl : ms.length ≤ 1000) : Odd 50 1000000 (.tuple [.str "parts", .int a, .tuple (ms.map .int)]) := by
  refine nice_pl (n := 2) (.tup (by simp) fun d hd => ?_) (by decide) ?_
  · rcases List.mem_cons.mp hd with rfl | hd
    · exact .str (by decide +kernel)
    · rcases List.mem_cons.mp hd with rfl | hd
      · exact pl_int ha
      · rcases List.mem_cons.mp hd with rfl | hd
        · exact pl_ints h hl
        · cases hd
  · have h5 := tc_ints h
    have h6 : tc (.str "parts") ≤ 100 := by decide +kernel
    have h7 := tc_int ha
    rw [tc, tcs, tcs, tcs, tcs]
    omega
theorem odd_in : Odd 50 1000000 (.tuple [.str "inside", .tuple []]) := by
  refine nice_pl (n := 2) (.tup (by simp) fun d hd => ?_) (by decide) (by decide +kernel)
  rcases List.mem_cons.mp hd with rfl | hd
  · exact .str (by decide +kernel)
  · rcases List.mem_cons.mp hd with rfl | hd
    · exact .tup (by simp) fun d hd => nomatch hd
    · cases hd
/-- behind a statement less is told -/
theorem st_nxsub {K : PySem.W.Frag} {T : List Tb} {C : CC K T} {S : SS} {F : FP} {E : SE} {t : TS} (h : ST C t S F { E with nx := fun S' F' => ∃ F1, List.Sublist F1 F' ∧ E.nx S' F1 }) : ST C t S F E := fun σ H rs as D cv =>
  h σ H rs as D ⟨fun σ' H' S' F' e rs' as' ⟨F1, sb, p⟩ =>
    let ⟨e2, a2⟩ := as'.sublist sb
    cv.nx σ' H' S' F1 (e.trans e2) (rs'.sub e2) a2 p, cv.rt, cv.bk, cv.ct⟩
end G

namespace L_k13
open PySem L2 G RT MS
def topS (i : Nat) : Stmt := PySem.Challenge.pw_semigrove_k13_containing_judged.main.body.getD i (.Pass ⟨0, 0, 0, 0⟩)
structure Bt (mg : Str → Option Value) : Prop where
  b_len : mg "len" = none
  b_sorted : mg "sorted" = none
  b_set : mg "set" = none
  b_tuple : mg "tuple" = none
  b_range : mg "range" = none
  b_isinstance : mg "isinstance" = none
  b_int : mg "int" = none
  b_bool : mg "bool" = none
  b_all : mg "all" = none
  b_one : mg "one" = none
  b_str : mg "str" = none
  b_sum : mg "sum" = none
  b_zip : mg "zip" = none
  b_member : mg "member" = none
  b_counts : mg "counts" = none
  b_list : mg "list" = none
  b_min : mg "min" = none
  b_repr : mg "repr" = none
  b_max : mg "max" = none
structure ZSums (K : PySem.W.Frag) (cSums : Addr) : Prop where
  cl : Cls K cSums
  n_base : NoAttr K cSums "base"
  n_by : NoAttr K cSums "by"
  n_row : NoAttr K cSums "row"
local macro_rules | `(tactic| walk_at "un") => `(tactic| simp only [natsOf_pN, intsOf_map, intOf_int])
local macro_rules | `(tactic| walk_at "gs") => `(tactic| simp only [startS, slotS, List.map_cons, List.map_nil, List.getElem?_cons_zero, List.getElem?_cons_succ, List.length_cons, List.length_nil, Nat.reduceAdd, Nat.reduceSub, List.replicate, List.cons_append, List.nil_append])
local macro_rules | `(tactic| walk_at "ks") => `(tactic| repeat (first | exact trivial | exact True.intro | exact rfl | refine ⟨rfl, ?_⟩ | fail))
local macro_rules | `(tactic| walk_at "mem") => `(tactic| first | exact List.Mem.head _ | exact List.Mem.tail _ (List.Mem.head _) | exact List.Mem.tail _ (List.Mem.tail _ (List.Mem.head _)) | exact List.Mem.tail _ (List.Mem.tail _ (List.Mem.tail _ (List.Mem.head _))) | assumption | fail)
local macro_rules | `(tactic| walk_at "mul") => `(tactic| first | exact Or.inl ⟨by omega, by omega⟩ | exact Or.inr ⟨by omega, by omega⟩ | assumption | fail)
local macro_rules | `(tactic| walk_at "div") => `(tactic| first | exact G.divL (by omega) | assumption | fail)
local macro_rules | `(tactic| walk_at "fz") => `(tactic| first | exact FrzAll.nil | exact fz_d FrzAll.nil | exact fz_d (fz_d FrzAll.nil) | exact fz_d (fz_d (fz_d FrzAll.nil)) | exact fz_d (fz_d (fz_d (fz_d FrzAll.nil))) | exact fz_d (fz_d (fz_d (fz_d (fz_d FrzAll.nil)))) | exact fz_d (fz_d (fz_d (fz_d (fz_d (fz_d FrzAll.nil))))) | exact fz_d (fz_d (fz_d (fz_d (fz_d (fz_d (fz_d FrzAll.nil)))))) | exact fz_d (fz_d (fz_d (fz_d (fz_d (fz_d (fz_d (fz_d FrzAll.nil))))))) | exact fz_d (fz_d (fz_d (fz_d (fz_d (fz_d (fz_d (fz_d (fz_d FrzAll.nil)))))))) | exact fz_d (fz_d (fz_d (fz_d (fz_d (fz_d (fz_d (fz_d (fz_d (fz_d FrzAll.nil))))))))) | exact fz_d (fz_d (fz_d (fz_d (fz_d (fz_d (fz_d (fz_d (fz_d (fz_d (fz_d FrzAll.nil)))))))))) | exact fz_d (fz_d (fz_d (fz_d (fz_d (fz_d (fz_d (fz_d (fz_d (fz_d (fz_d (fz_d FrzAll.nil))))))))))) | exact fz_d (fz_d (fz_d (fz_d (fz_d (fz_d (fz_d (fz_d (fz_d (fz_d (fz_d (fz_d (fz_d FrzAll.nil)))))))))))) | exact fz_d (fz_d (fz_d (fz_d (fz_d (fz_d (fz_d (fz_d (fz_d (fz_d (fz_d (fz_d (fz_d (fz_d FrzAll.nil))))))))))))) | exact fz_d (fz_d (fz_d (fz_d (fz_d (fz_d (fz_d (fz_d (fz_d (fz_d (fz_d (fz_d (fz_d (fz_d (fz_d FrzAll.nil)))))))))))))) | exact fz_d (fz_d (fz_d (fz_d (fz_d (fz_d (fz_d (fz_d (fz_d (fz_d (fz_d (fz_d (fz_d (fz_d (fz_d (fz_d FrzAll.nil))))))))))))))) | exact fz_d (fz_d (fz_d (fz_d (fz_d (fz_d (fz_d (fz_d (fz_d (fz_d (fz_d (fz_d (fz_d (fz_d (fz_d (fz_d (fz_d FrzAll.nil)))))))))))))))) | exact fz_d (fz_d (fz_d (fz_d (fz_d (fz_d (fz_d (fz_d (fz_d (fz_d (fz_d (fz_d (fz_d (fz_d (fz_d (fz_d (fz_d (fz_d FrzAll.nil))))))))))))))))) | exact fz_d (fz_d (fz_d (fz_d (fz_d (fz_d (fz_d (fz_d (fz_d (fz_d (fz_d (fz_d (fz_d (fz_d (fz_d (fz_d (fz_d (fz_d (fz_d FrzAll.nil)))))))))))))))))) | exact fz_d (fz_d (fz_d (fz_d (fz_d (fz_d (fz_d (fz_d (fz_d (fz_d (fz_d (fz_d (fz_d (fz_d (fz_d (fz_d (fz_d (fz_d (fz_d (fz_d FrzAll.nil))))))))))))))))))) | exact fz_d (fz_d (fz_d (fz_d (fz_d (fz_d (fz_d (fz_d (fz_d (fz_d (fz_d (fz_d (fz_d (fz_d (fz_d (fz_d (fz_d (fz_d (fz_d (fz_d (fz_d FrzAll.nil)))))))))))))))))))) | exact fz_d (fz_d (fz_d (fz_d (fz_d (fz_d (fz_d (fz_d (fz_d (fz_d (fz_d (fz_d (fz_d (fz_d (fz_d (fz_d (fz_d (fz_d (fz_d (fz_d (fz_d (fz_d FrzAll.nil))))))))))))))))))))) | exact fz_d (fz_d (fz_d (fz_d (fz_d (fz_d (fz_d (fz_d (fz_d (fz_d (fz_d (fz_d (fz_d (fz_d (fz_d (fz_d (fz_d (fz_d (fz_d (fz_d (fz_d (fz_d (fz_d FrzAll.nil)))))))))))))))))))))) | exact fz_d (fz_d (fz_d (fz_d (fz_d (fz_d (fz_d (fz_d (fz_d (fz_d (fz_d (fz_d (fz_d (fz_d (fz_d (fz_d (fz_d (fz_d (fz_d (fz_d (fz_d (fz_d (fz_d (fz_d FrzAll.nil))))))))))))))))))))))) | exact fz_d (fz_d (fz_d (fz_d (fz_d (fz_d (fz_d (fz_d (fz_d (fz_d (fz_d (fz_d (fz_d (fz_d (fz_d (fz_d (fz_d (fz_d (fz_d (fz_d (fz_d (fz_d (fz_d (fz_d (fz_d FrzAll.nil)))))))))))))))))))))))) | fail)
local macro_rules | `(tactic| walk_at "g0") => `(tactic| first
  | ((with_reducible refine tj_var (x := ?x) ?hv ?_); (case hv => exact rfl))
  | with_reducible refine tj_int ?_
  | with_reducible refine tj_op ?_
  | ((with_reducible refine ro_ixT (d := ?d) ?hx ?_); (case hx => exact rfl))
  | ((with_reducible refine ro_ixM (xs := ?xs) (x := ?x) ?hm ?hx ?_); (case hm => walk_at "mem"); (case hx => exact rfl))
  | with_reducible refine st_asg ?_
  | ((with_reducible refine tg_name ?_); (dsimp only [List.set]))
  | with_reducible refine tl_nil ?_
  | with_reducible refine tl_cons ?_
  | with_reducible refine tl_star ?_
  | with_reducible refine ro_addI ?_
  | with_reducible refine ro_sub ?_
  | ((with_reducible refine ro_mul ?hc ?_); (case hc => walk_at "mul"))
  | ((with_reducible refine ro_mod ?hc ?_); (case hc => first | decide | omega))
  | ((with_reducible refine ro_div ?hc ?_); (case hc => walk_at "div"))
  | with_reducible refine tj_cb ?_
  | with_reducible refine tj_tup ?_
  | ((with_reducible refine tup_go (ds := ?ds) (F2 := ?F2) ?fz ?hz ?_); (case fz => walk_at "fz"); (case hz => simp))
  | ((with_reducible refine ro_pow ?hc ?_); (case hc => exact ⟨by decide, by decide, by decide⟩); (try simp only [Int.reduceToNat, Int.reducePow]))
  | with_reducible refine tj_call ?_
  | with_reducible refine st_ret ?_
  | with_reducible refine st_if ?_
  | with_reducible refine tb_test ?_
  | with_reducible refine tb_B ?_
  | with_reducible refine ro_lt ?_
  | with_reducible refine ro_le ?_
  | with_reducible refine ro_gt ?_
  | with_reducible refine ro_ge ?_
  | with_reducible refine ro_eqI ?_
  | with_reducible refine ro_neI ?_
  | with_reducible refine rc_int ?_
  | with_reducible refine rc_isiTup ?_
  | with_reducible refine rc_isiLst ?_
  | with_reducible refine rc_isiInt ?_
  | with_reducible refine rc_isiBl ?_
  | with_reducible refine rc_isiStr ?_
  | with_reducible refine ro_eqB ?_
  | with_reducible refine ro_neB ?_
  | with_reducible refine ro_isN ?_
  | with_reducible refine ro_notN ?_
  | with_reducible refine tj_andV ?_
  | with_reducible refine tj_orV ?_
  | with_reducible refine tj_notV ?_
  | with_reducible refine tj_chain ?_
  | with_reducible refine tj_dict0 ?_
  | with_reducible refine ro_neS ?_
  | with_reducible refine rc_abs ?_
  | with_reducible refine rc_gcd ?_
  | with_reducible refine rc_lenT ?_
  | with_reducible refine rc_lenL ?_
  | ((with_reducible refine rc_lenM (xs := ?xs) ?hm ?_); (case hm => walk_at "mem"))
  | with_reducible refine tb_and ?_
  | with_reducible refine tb_or ?_
  | with_reducible refine tb_not ?_
  | with_reducible refine tj_un ?_
  | with_reducible refine ru_neg ?_
  | with_reducible refine tj_bl ?_
  | with_reducible refine tj_non ?_
  | with_reducible refine tj_str ?_
  | with_reducible refine tj_ty ?_
  | with_reducible refine tj_if ?_
  | with_reducible refine st_par ?_
  | with_reducible refine st_next ?_
  | with_reducible refine st_break ?_
  | with_reducible refine st_cont ?_
  | with_reducible refine st_drop ?_
  | with_reducible refine tg_tup2 ?_
  | with_reducible refine tg_tup3 ?_
  | with_reducible refine tb_yes ?_
  | ((with_reducible refine tj_fld (c := ?c) ?hc ?hn ?_); (case hc => assumption); (case hn => assumption))
  | ((with_reducible refine st_fld (c := ?c) ?hc ?hn ?_); (case hc => assumption); (case hn => assumption))
  | ((with_reducible refine fld_go (d := ?d) ?hl ?_); (case hl => exact rfl))
  | ((with_reducible refine meth_go ?hl ?_); (case hl => exact rfl))
  | ((with_reducible refine sfld_go (fs := ?fs) (dx := ?dx) ?hm ?hl ?_); (case hm => walk_at "mem"); (case hl => exact Nat.le_of_ble_eq_true rfl); (try rw [setF_one]))
  | with_reducible refine tj_meth ?_
  | with_reducible refine tj_sums ?_
  | ((with_reducible refine st_aug (a := ?a) ?hx ?_); (case hx => exact rfl))
  | ((with_reducible refine tg_setL ?_))
  | ((with_reducible refine set_go (xs := ?xs) (j := ?j) ?hm ?hx ?_); (case hm => walk_at "mem"); (case hx => exact rfl); (try simp only [setF_one, Int.reduceToNat]); (try dsimp only [List.set]))
  | ((with_reducible refine tj_append ?_))
  | ((with_reducible refine app_go (xs := ?xs) ?hm ?_); (case hm => walk_at "mem"))
  | ((with_reducible refine ⟨_, rfl, ?_⟩))
  | ((with_reducible refine ⟨_, _, rfl, ?_⟩); (try dsimp only [List.set]))
  | ((with_reducible refine ⟨fun hc => ?_, fun hc => ?_⟩) <;> (try simp only [decide_eq_true_eq, decide_eq_false_iff_not, Bool.not_eq_true, Bool.not_eq_false, Bool.not_eq_eq_eq_not, Bool.not_true, Bool.not_false, beq_iff_eq, bne_iff_ne, ne_eq, beq_eq_false_iff_ne, bne_eq_false_iff_eq, Bool.false_eq_true, Bool.true_eq_false, reduceCtorEq, Bool.bne_false, Bool.bne_true, Bool.true_bne, Bool.false_bne, beq_true, beq_false, Bool.true_beq, Bool.false_beq, not_false_eq_true, not_true_eq_false, isTup, isLst, isInt, isBl, isStr, isN] at hc))
  | dsimp only
  | fail)
local macro_rules | `(tactic| walk_at "g1") => `(tactic| first | with_reducible refine st_seq ?_ | walk_at "g0" | fail)
local macro_rules | `(tactic| walk_at "g2") => `(tactic| first | walk_at "g1" | with_reducible refine to_none ?_ | with_reducible refine to_some ?_ | with_reducible refine tj_lstD ?_ | fail)
local macro_rules | `(tactic| walk_at "wok") => `(tactic| first | exact wok_name (by simp) | exact wok_tup2 (by simp) (by simp) | exact wok_tup3 (by simp) (by simp) (by simp) | fail)
local macro_rules | `(tactic| walk_at "pre") => `(tactic| (repeat' apply And.intro) <;> first | exact trivial | assumption | exact Or.inl rfl | exact Or.inr rfl | omega | fail)
local macro_rules | `(tactic| walk_at "e1") => `(tactic| first
  | (with_reducible exact ⟨rfl, rfl⟩)
  | with_reducible apply tj_andE
  | with_reducible apply tj_orE
  | with_reducible apply tj_notE
  | with_reducible apply tb_andE
  | with_reducible apply tb_orE
  | with_reducible apply tb_notE
  | with_reducible apply tb_testE
  | with_reducible apply tb_BE
  | with_reducible apply tj_chainE
  | with_reducible apply st_ifE
  | ((with_reducible apply tj_ifI); (case h => (repeat' walk_at "e1"); done); (case h1 => (repeat' walk_at "e1"); done); (case h2 => (repeat' walk_at "e1"); done))
  | ((with_reducible apply tj_ifD); (case h => (repeat' walk_at "e1"); done); (case h1 => (repeat' walk_at "e1"); done); (case h2 => (repeat' walk_at "e1"); done))
  | ((with_reducible refine (fun hc : (_ : Bool) = true => ?_)); (try simp only [decide_eq_true_eq, decide_eq_false_iff_not, Bool.and_eq_true, Bool.or_eq_true, Bool.and_eq_false_imp, Bool.or_eq_false_iff, Bool.not_eq_true, Bool.not_eq_false, Bool.not_eq_eq_eq_not, Bool.not_true, Bool.not_false, beq_iff_eq, bne_iff_ne, ne_eq, beq_eq_false_iff_ne, bne_eq_false_iff_eq, Bool.false_eq_true, Bool.true_eq_false, reduceCtorEq, not_false_eq_true, not_true_eq_false, List.length_map, Decidable.not_not, Bool.bne_false, Bool.bne_true, Bool.true_bne, Bool.false_bne, beq_true, beq_false, Bool.true_beq, Bool.false_beq] at hc))
  | ((with_reducible refine (fun hc : (_ : Bool) = false => ?_)); (try simp only [decide_eq_true_eq, decide_eq_false_iff_not, Bool.and_eq_true, Bool.or_eq_true, Bool.and_eq_false_imp, Bool.or_eq_false_iff, Bool.not_eq_true, Bool.not_eq_false, Bool.not_eq_eq_eq_not, Bool.not_true, Bool.not_false, beq_iff_eq, bne_iff_ne, ne_eq, beq_eq_false_iff_ne, bne_eq_false_iff_eq, Bool.false_eq_true, Bool.true_eq_false, reduceCtorEq, not_false_eq_true, not_true_eq_false, List.length_map, Decidable.not_not, Bool.bne_false, Bool.bne_true, Bool.true_bne, Bool.false_bne, beq_true, beq_false, Bool.true_beq, Bool.false_beq] at hc))
  | ((with_reducible refine cl_f1 ?pre ?_ ?hn); (case pre => walk_at "pre"); (case hn => exact rfl))
  | ((with_reducible refine cl_f2 ?pre ?_ ?hn); (case pre => walk_at "pre"); (case hn => exact rfl))
  | ((with_reducible refine cl_f3 ?pre ?_ ?hn); (case pre => walk_at "pre"); (case hn => exact rfl))
  | ((with_reducible refine cl_f4 ?pre ?_ ?hn); (case pre => walk_at "pre"); (case hn => exact rfl))
  | ((with_reducible refine cl_f0 ?pre ?_ ?hn); (case pre => walk_at "pre"); (case hn => exact rfl))
  | ((with_reducible refine cl_p1 ?pre ?_); (case pre => walk_at "pre"))
  | ((with_reducible refine cl_p2 ?pre ?_); (case pre => walk_at "pre"))
  | ((with_reducible apply tj_callFE); (case hS => exact rfl))
  | ((with_reducible refine fun_go ?hp ?_); (case hp => first | exact trivial | assumption | (constructor <;> omega) | omega | fail))
  | with_reducible refine it_seqE ?_
  | with_reducible refine tl_starX ?_
  | with_reducible refine star_t ?_
  | with_reducible refine star_l ?_
  | with_reducible refine seq_t ?_
  | with_reducible refine seq_l ?_
  | with_reducible refine seq_t0 ?_
  | with_reducible refine seq_l0 ?_
  | with_reducible refine it_rng1E ?_
  | with_reducible refine it_rng2E ?_
  | ((with_reducible refine rng_n ?hb ?_); (case hb => omega))
  | ((with_reducible refine rng_i ?hb ?_); (case hb => omega))
  | ((with_reducible refine rng2_i ?hb ?_); (case hb => omega))
  | ((with_reducible apply tj_allX); (case hP => assumption))
  | ((with_reducible apply tj_anyX); (case hP => assumption))
  | ((with_reducible apply tj_tupY); (case hP => assumption))
  | ((with_reducible apply tj_tupX); (case hP => assumption))
  | ((with_reducible refine genT2_go ?hk ?_ ?_); (case hk => walk_at "ks"))
  | ((with_reducible apply tj_lcY); (case hw => walk_at "wok"))
  | ((with_reducible apply tj_lcX); (case hw => walk_at "wok"))
  | ((with_reducible refine turn_rng (fun a ha => ?_)); (try simp only [List.length_map] at ha); (try walk_at "gs"))
  | ((with_reducible refine turn_go (fun a ha => ?_)); (try walk_at "gs"))
  | ((with_reducible refine (fun D acc (hD : Fr _ _) => ?_)))
  | ((with_reducible refine lcT_go ?_ ?_); (try dsimp only [wipeS, List.map, List.set]))
  | ((with_reducible refine lcM_go ?_); (try dsimp only [wipeS, List.map, List.set]))
  | ((with_reducible refine genE_go ?hk ?_); (case hk => walk_at "ks"))
  | ((with_reducible refine ro_hd ?hne ?_); (case hne => first | assumption | exact BaseB.ne' (by assumption) | exact Base.ne (by assumption)))
  | ((with_reducible refine ro_lst ?hne ?_); (case hne => first | assumption | exact BaseB.ne' (by assumption) | exact Base.ne (by assumption)))
  | with_reducible refine tj_backE ?_
  | with_reducible refine back_t ?_
  | with_reducible refine back_l ?_
  | with_reducible refine tj_slE ?_
  | with_reducible refine cut_t ?_
  | with_reducible refine cut_l ?_
  | with_reducible refine to_none ?_
  | with_reducible refine to_someE ?_
  | with_reducible refine part_i ?_
  | with_reducible refine rc_listD (Or.inr rfl) ?_
  | with_reducible refine rc_listD (Or.inl rfl) ?_
  | with_reducible refine rc_tupleD (Or.inl rfl) ?_
  | with_reducible refine rc_tupleD (Or.inr rfl) ?_
  | ((with_reducible refine ro_addT ?hz ?_); (case hz => simp only [List.length_map, List.length_append, List.length_cons, List.length_nil, List.length_reverse, List.length_replicate, List.length_range]; omega))
  | with_reducible refine tj_sumsE ?_
  | ((with_reducible refine sums_go ?hb ?_); (case hb => assumption))
  | ((with_reducible refine ro_ixNk ?hk ?_); (case hk => omega))
  | ((with_reducible refine ro_ixNi ?h0 ?hk ?_); (case h0 => omega); (case hk => omega))
  | ((with_reducible refine ro_ixIk ?hk ?_); (case hk => omega))
  | ((with_reducible refine ro_ixIi ?h0 ?hk ?_); (case h0 => omega); (case hk => omega))
  | ((with_reducible refine ro_ixLNk ?hk ?_); (case hk => omega))
  | ((with_reducible refine ro_ixLNi ?h0 ?hk ?_); (case h0 => omega); (case hk => omega))
  | ((with_reducible refine ro_ixLIk ?hk ?_); (case hk => omega))
  | ((with_reducible refine ro_ixLIi ?h0 ?hk ?_); (case h0 => omega); (case hk => omega))
  | with_reducible refine rc_lenTM ?_
  | with_reducible refine rc_lenLM ?_
  | with_reducible refine rc_sumX ?_
  | with_reducible refine rc_sortX ?_
  | with_reducible refine rc_max2X ?_
  | with_reducible refine rc_min2X ?_
  | ((with_reducible refine tg_name ?_); (dsimp only [List.set, wipeS, List.map]))
  | walk_at "g1"
  | walk_at "lng"
  | (rw [isI_eq (by assumption)])
  | (rw [isT_eq (by assumption)])
  | fail)
local macro_rules | `(tactic| walk_at "lng") => `(tactic| ((unfold Lng); (try simp only [List.length_range, List.length_map]); omega))
section
variable {P : Program} {w : World} {K : PySem.W.Frag} {mg : Str → Option Value} {base : Heap} {T : List Tb} {cSums : Addr}
abbrev s_u_law_pool : Stmt := topS 21
theorem sc_u_law_pool : FnScope ["script", "salt", "cell"] ["script"] (defScope s_u_law_pool) := ⟨rfl, rfl, rfl, by decide +kernel, rfl, by decide +kernel, by decide +kernel⟩
theorem ok_u_law_pool {f : Addr} {fd : FuncData} (F : Fun K "_law_pool" "_law_pool" s_u_law_pool f fd) (B : Bt mg) :
    FnOk P w K mg base CX0 1 f fd ["script"] ((c_pool).sp K T) := by
  refine ok_ct (c_pool) F sc_u_law_pool rfl fun cdv A outer s H E hr => ⟨_, (pss_cons (ps_asg pe_int (pg_name (i := 1) sc_u_law_pool.nd rfl (by first | exact Or.inl rfl | exact Or.inr rfl)))
      (pss_cons (ps_for PassesOwn.never rfl (k_seq (K := K) rfl (pe_slice (k_sl (K := K) rfl) (pv 0) po_none (po_some pe_int))) (pg_name (i := 2) sc_u_law_pool.nd rfl (by first | exact Or.inl rfl | exact Or.inr rfl)) (pss_one (ps_asg (pe_op op_mod (pe_callTy call_int1 (by rfl) B.b_int (by decide +kernel) (pa_cons (pe_op (k_addA (K := K) rfl) (pe_op op_mul (pv 1) pe_int) (pv 2)) pa_nil)) pe_int) (pg_name (i := 1) sc_u_law_pool.nd rfl (by first | exact Or.inl rfl | exact Or.inr rfl)))))
      (pss_one (ps_ret (pe_lst (pa_cons (pe_callTy (k_list (K := K) rfl) (by rfl) B.b_list (by decide +kernel) (pa_cons (pv 0) pa_nil)) (pa_cons pe_int (pa_cons pe_int (pa_cons pe_int (pa_cons (pv 1) pa_nil)))))))))), fun C xs hn hp => ?_⟩
  obtain ⟨ns, rfl⟩ := hp
  change ST C _ [some (.d (.list (ns.map .int))), none, none] [] _
  repeat' walk_at "g1"
  refine st_for (it_seqL (tj_sl ?_))
  repeat' walk_at "g1"
  refine to_none (to_some ?_)
  repeat' walk_at "g1"
  refine .inl ⟨_, rfl, _, rfl, ?_⟩
  refine ⟨fun i S F => ∃ (x : Int) (u : Option SV), S = [some (.d (.list (ns.map .int))), some (dI x), u] ∧ F = [], ⟨_, _, rfl, rfl⟩, ?_, ?_⟩
  · rintro i y S F hi ⟨x, u, rfl, rfl⟩
    have hy : ∃ z, y = dI z := by
      rw [List.getElem?_map] at hi
      obtain ⟨d, hd, rfl⟩ := Option.map_eq_some_iff.mp hi
      have := List.mem_of_getElem? hd
      unfold cutD at this
      obtain ⟨z, _, rfl⟩ := List.mem_map.mp (List.mem_of_mem_drop (List.mem_of_mem_take this))
      exact ⟨z, rfl⟩
    obtain ⟨z, rfl⟩ := hy
    repeat' walk_at "g1"
    try exact ⟨_, _, rfl, rfl⟩
  · rintro S F ⟨x, u, rfl, rfl⟩
    repeat' walk_at "g1"
    refine tj_lst ?_
    repeat' walk_at "g1"
    refine rc_listD (.inl rfl) ?_
    repeat' walk_at "g1"
    refine ⟨by show 5 ≤ 1000; decide, fun l _ => ends_full ⟨l, _, rfl, ⟨ns, 0, 0, 0, x, rfl, by decide⟩, rfl⟩⟩

abbrev s_u_law_spread : Stmt := topS 22
theorem sc_u_law_spread : FnScope ["cell", "mixed", "total_v", "k"] ["cell"] (defScope s_u_law_spread) := ⟨rfl, rfl, rfl, by decide +kernel, rfl, by decide +kernel, by decide +kernel⟩
theorem ok_u_law_spread {f : Addr} {fd : FuncData} (F : Fun K "_law_spread" "_law_spread" s_u_law_spread f fd) (B : Bt mg) :
    FnOk P w K mg base CX0 1 f fd ["cell"] ((c_spread).sp K T) := by
  refine ok_ct (c_spread) F sc_u_law_spread rfl fun cdv A outer s H E hr => ⟨_, (pss_cons (ps_asg (pe_op op_mod (pe_callTy call_int1 (by rfl) B.b_int (by decide +kernel) (pa_cons (pv 0) pa_nil)) pe_int) (pg_name (i := 1) sc_u_law_spread.nd rfl (by first | exact Or.inl rfl | exact Or.inr rfl)))
      (pss_cons (ps_asg pe_int (pg_name (i := 2) sc_u_law_spread.nd rfl (by first | exact Or.inl rfl | exact Or.inr rfl)))
      (pss_cons (ps_for PassesOwn.never rfl (pi_range1 (by rfl) B.b_range (pa_cons pe_int pa_nil)) (pg_name (i := 3) sc_u_law_spread.nd rfl (by first | exact Or.inl rfl | exact Or.inr rfl)) (pss_cons (ps_asg (pe_op op_mod (pe_callTy call_int1 (by rfl) B.b_int (by decide +kernel) (pa_cons (pe_op (k_addA (K := K) rfl) (pe_op (k_addA (K := K) rfl) (pe_op op_mul (pv 1) pe_int) pe_int) (pv 3)) pa_nil)) pe_int) (pg_name (i := 1) sc_u_law_spread.nd rfl (by first | exact Or.inl rfl | exact Or.inr rfl)))
      (pss_one (ps_asg (pe_op (k_addA (K := K) rfl) (pe_op op_mul (pv 2) pe_int) (pv 1)) (pg_name (i := 2) sc_u_law_spread.nd rfl (by first | exact Or.inl rfl | exact Or.inr rfl))))))
      (pss_one (ps_ret (pv 2)))))), fun C xs hn hp => ?_⟩
  obtain ⟨a, rfl⟩ := hp
  change ST C _ [some (dI a), none, none, none] [] _
  repeat' walk_at "g1"
  refine st_for (it_rng1 ?_)
  repeat' walk_at "g1"
  refine ⟨by decide, ?_⟩
  refine ⟨fun i S F => ∃ (x y : Int) (u : Option SV), S = [some (dI a), some (dI x), some (dI y), u] ∧ F = [], ⟨_, _, _, rfl, rfl⟩, ?_, ?_⟩
  · rintro i y S F hi ⟨x, z, u, rfl, rfl⟩
    obtain ⟨_, rfl⟩ := rg_get hi
    repeat' walk_at "g1"
    exact ⟨_, _, _, rfl, rfl⟩
  · rintro S F ⟨x, z, u, rfl, rfl⟩
    repeat' walk_at "g1"
    exact ends_of ⟨rfl, _, rfl⟩

abbrev s_u_law_draw : Stmt := topS 23
theorem sc_u_law_draw : FnScope ["pool", "many", "cell", "mixed", "value"] ["pool", "many"] (defScope s_u_law_draw) := ⟨rfl, rfl, rfl, by decide +kernel, rfl, by decide +kernel, by decide +kernel⟩
theorem ok_u_law_draw {f : Addr} {fd : FuncData} (F : Fun K "_law_draw" "_law_draw" s_u_law_draw f fd) (B : Bt mg)
    (D_u_law_spread : DefOk P w K mg base 1 "_law_spread" ["cell"] ((c_spread).sp K T)) :
    FnOk P w K mg base CX0 2 f fd ["pool", "many"] ((c_draw).sp K T) := by
  refine ok_ctb (c_draw) F sc_u_law_draw rfl fun cdv A outer s H E hr => ⟨_, (pss_cons (ps_if (PW.pt (pw_and (pt_cmpR op_le (pe_ix (k_ix (K := K) rfl) (pv 0) pe_int (fun _ _ => rfl)) pe_int (nomark _)) (pw_and1 (pt_cmpR op_lt (pe_ix (k_ix (K := K) rfl) (pv 0) pe_int (fun _ _ => rfl)) (pe_callB (k_len (K := K) rfl) (by rfl) B.b_len (by decide +kernel) (pa_cons (pe_ix (k_ix (K := K) rfl) (pv 0) pe_int (fun _ _ => rfl)) pa_nil)) (nomark _))))) (pss_cons (ps_asg (pe_ix (k_ix (K := K) rfl) (pe_ix (k_ix (K := K) rfl) (pv 0) pe_int (fun _ _ => rfl)) (pe_ix (k_ix (K := K) rfl) (pv 0) pe_int (fun _ _ => rfl)) (fun _ _ => rfl)) (pg_name (i := 2) sc_u_law_draw.nd rfl (by first | exact Or.inl rfl | exact Or.inr rfl)))
      (pss_cons (ps_asg (pe_op (k_addA (K := K) rfl) (pe_ix (k_ix (K := K) rfl) (pv 0) pe_int (fun _ _ => rfl)) pe_int) (pg_sub (pv 0) pe_int set_list))
      (pss_cons (ps_asg (pv 2) (pg_sub (pv 0) pe_int set_list))
      (pss_one (ps_if (pt_cmpR op_lt (pv 2) pe_int (nomark _)) (pss_one (ps_asg (pe_dcall D_u_law_spread hr (by rfl) (pa_cons (pv 2) pa_nil)) (pg_sub (pv 0) pe_int set_list))) pss_nil))))) pss_nil)
      (pss_cons (ps_asg (pe_op (k_addA (K := K) rfl) (pe_ix (k_ix (K := K) rfl) (pv 0) pe_int (fun _ _ => rfl)) pe_int) (pg_sub (pv 0) pe_int set_list))
      (pss_cons (ps_if (pt_cmpR op_le (pe_ix (k_ix (K := K) rfl) (pv 0) pe_int (fun _ _ => rfl)) pe_int (nomark _)) (pss_cons (ps_asg (pe_op op_mod (pe_callTy call_int1 (by rfl) B.b_int (by decide +kernel) (pa_cons (pe_op (k_addA (K := K) rfl) (pe_op (k_addA (K := K) rfl) (pe_op op_mul (pe_ix (k_ix (K := K) rfl) (pv 0) pe_int (fun _ _ => rfl)) pe_int) (pe_op op_mul (pe_ix (k_ix (K := K) rfl) (pv 0) pe_int (fun _ _ => rfl)) pe_int)) pe_int) pa_nil)) pe_int) (pg_name (i := 3) sc_u_law_draw.nd rfl (by first | exact Or.inl rfl | exact Or.inr rfl)))
      (pss_cons (ps_asg (pe_op op_mod (pe_callTy call_int1 (by rfl) B.b_int (by decide +kernel) (pa_cons (pe_op (k_addA (K := K) rfl) (pe_op op_mul (pv 3) pe_int) (pe_ix (k_ix (K := K) rfl) (pv 0) pe_int (fun _ _ => rfl))) pa_nil)) pe_int) (pg_name (i := 3) sc_u_law_draw.nd rfl (by first | exact Or.inl rfl | exact Or.inr rfl)))
      (pss_one (ps_ret (pe_op op_mod (pe_op op_fdivW (pv 3) pe_int) (pv 1)))))) pss_nil)
      (pss_cons (ps_asg (pe_op op_mod (pe_callTy call_int1 (by rfl) B.b_int (by decide +kernel) (pa_cons (pe_ix (k_ix (K := K) rfl) (pv 0) pe_int (fun _ _ => rfl)) pa_nil)) (pv 1)) (pg_name (i := 4) sc_u_law_draw.nd rfl (by first | exact Or.inl rfl | exact Or.inr rfl)))
      (pss_cons (ps_asg (pe_op op_fdivW (pe_ix (k_ix (K := K) rfl) (pv 0) pe_int (fun _ _ => rfl)) (pv 1)) (pg_sub (pv 0) pe_int set_list))
      (pss_one (ps_ret (pv 4)))))))), fun C p mo xs hn hp => ?_⟩
  obtain ⟨⟨ns, i, c, n, salt, rfl, hi⟩, m, rfl, h0, h1⟩ := hp
  change ST C _ [some (.m p), some (dI m), none, none, none] [(p, _)] _
  rw [two199] at h1
  refine st_cut (fun S F => ∃ u mo, S = [some (.m p), some (dI m), u, none, none] ∧ F = [(p, mo)] ∧ isPool mo) ?_ ?_
  · repeat' walk_at "g1"
    · rename_i hc1 hc2
      rw [List.length_map] at hc2
      refine ro_ixI hi (by omega) fun z hz hz2 => ?_
      repeat' walk_at "g1"
      · refine cl_ct rfl ⟨_, rfl⟩ ?_
        rintro y F' ⟨rfl, w, rfl⟩ _
        dsimp only [List.nil_append]
        repeat' walk_at "g1"
        exact ⟨_, _, rfl, rfl, ns, i + 1, w, n, salt, rfl, by omega⟩
      · exact ⟨_, _, rfl, rfl, ns, i + 1, z, n, salt, rfl, by omega⟩
    · exact ⟨_, _, rfl, rfl, ns, i, c, n, salt, rfl, hi⟩
    · exact ⟨_, _, rfl, rfl, ns, i, c, n, salt, rfl, hi⟩
  · rintro S F ⟨u, mo, rfl, rfl, ⟨ns, i, c, n, salt, rfl, hi⟩⟩
    repeat' walk_at "g1"
    · refine ⟨_, List.Sublist.refl _, ⟨ns, i, c, n + 1, salt, rfl, hi⟩, _, rfl, Int.emod_nonneg _ (by omega), Int.emod_lt_of_pos _ h0⟩
    · refine ⟨_, List.Sublist.refl _, ⟨ns, i, _, n + 1, salt, rfl, hi⟩, _, rfl, Int.emod_nonneg _ (by omega), Int.emod_lt_of_pos _ h0⟩

abbrev s_u_law_sums : Stmt := topS 33
theorem sc_u_law_sums : FnScope ["numbers", "last", "n", "known", "a"] ["numbers", "last"] (defScope s_u_law_sums) := ⟨rfl, rfl, rfl, by decide +kernel, rfl, by decide +kernel, by decide +kernel⟩
theorem ok_u_law_sums {f : Addr} {fd : FuncData} (F : Fun K "_law_sums" "_law_sums" s_u_law_sums f fd) (B : Bt mg) :
    FnOk P w K mg base CX0 1 f fd ["numbers", "last"] ((c_sums).sp K T) := by
  refine ok_ct (c_sums) F sc_u_law_sums rfl fun cdv A outer s H E hr => ⟨_, (pss_cons (ps_setLc (i := 3) (own := [("n", 2)]) rfl sc_u_law_sums.nd rfl rfl (sw_true rfl rfl rfl (by decide +kernel)) (pi_range1 (by rfl) B.b_range (pa_cons (pe_op (k_addA (K := K) rfl) (pv 1) pe_int) pa_nil)) (blkOk_by (N := ["numbers", "last", "n", "known", "a"]) (sc := defScope s_u_law_sums) (by decide +kernel)) (fun _ _ _ _ _ => (pg_name (i := 2) sc_u_law_sums.nd rfl (by first | exact Or.inl rfl | exact Or.inr rfl))) (fun _ _ _ _ _ => pts_nil) (fun _ _ _ _ _ => (pe_cmpR (k_eqD (K := K) rfl hr.units) (pv 2) pe_int (nomark _))))
      (pss_cons (ps_for PassesOwn.never rfl (k_seq (K := K) rfl (pv 0)) (pg_name (i := 4) sc_u_law_sums.nd rfl (by first | exact Or.inl rfl | exact Or.inr rfl)) (pss_one (ps_for PassesOwn.never rfl (pi_range2 (by rfl) B.b_range (pa_cons (pv 4) (pa_cons (pe_op (k_addA (K := K) rfl) (pv 1) pe_int) pa_nil))) (pg_name (i := 2) sc_u_law_sums.nd rfl (by first | exact Or.inl rfl | exact Or.inr rfl)) (pss_one (ps_if (pt_val (pe_ix (k_ix (K := K) rfl) (pv 3) (pe_op op_sub (pv 2) (pv 4)) (fun _ _ => rfl))) (pss_one (ps_asg pe_bl (pg_sub (pv 3) (pv 2) set_list))) pss_nil)))))
      (pss_one (ps_ret (pv 3))))), fun C xs hn hp => ?_⟩
  obtain ⟨x, l, last, rfl, hx, hl, hlast⟩ := hp
  change ST C _ [some x, some (dI last), none, none, none] [] _
  repeat' walk_at "g0"
  refine st_seq (st_asg (tj_lcO (wok_name (by simp)) (it_rng1 ?_)))
  repeat' walk_at "g1"
  refine ⟨⟨by omega, by omega⟩, Nat, List.range (last + 1), (fun (n : Nat) => dI (0 + (n : Int))), (fun _ => true), (fun (n : Nat) => dB (decide ((0 : Int) + (n : Int) = 0))), ?_, by rw [List.length_range]; omega, fun D acc n hn hD => ?_, fun D hD => ?_⟩
  · show rg 0 _ = _
    unfold rg
    rw [show ((last : Int) + 1).toNat = last + 1 by omega]
  · repeat' walk_at "g1"
    refine ⟨rfl, rfl, fun _ => ?_⟩
    repeat' walk_at "g1"
    exact ⟨rfl, rfl⟩
  · have e0 : ((List.range (last + 1)).filter (fun _ => true)).map (fun (n : Nat) => dB (decide ((0 : Int) + (n : Int) = 0))) = tabC [] last := by
      rw [List.filter_eq_self.mpr fun _ _ => rfl]
      exact List.map_congr_left fun n _ => congrArg dB (by
        rw [Bool.eq_iff_iff, smb_iff, sm_nil, decide_eq_true_iff]
        omega)
    rw [e0]
    repeat' walk_at "g1"
    refine st_for (it_seqX ?_)
    repeat' walk_at "g1"
    refine ⟨_, hx, ?_⟩
    refine ⟨fun i S F => ∃ u2 u4 : Option SV, S = [some x, some (dI last), u2, some (.m D), u4] ∧ F = [(D, .lst (tabC (l.take i) last))], ⟨_, _, rfl, rfl⟩, ?_, ?_⟩
    · rintro i y S F hi ⟨u2, u4, rfl, rfl⟩
      rw [List.map_map, List.getElem?_map] at hi
      obtain ⟨a, ha, rfl⟩ := Option.map_eq_some_iff.mp hi
      have hla := hl a (List.mem_of_getElem? ha)
      have e1 : l.take (i + 1) = l.take i ++ [a] := by rw [List.take_add_one, ha]; rfl
      dsimp only [Function.comp]
      rw [e1]
      generalize l.take i = k
      repeat' walk_at "g1"
      refine st_for (it_rng2 ?_)
      repeat' walk_at "g1"
      refine ⟨⟨by omega, by omega, by omega, by omega⟩, ?_⟩
      refine ⟨fun j S F => ∃ u2 : Option SV, S = [some x, some (dI last), u2, some (.m D), some (dI a)] ∧ F = [(D, .lst ((List.range (last + 1)).map fun n => dB (tabF k a j n)))], ⟨_, rfl, ?_⟩, ?_, ?_⟩
      · unfold tabC
        simp only [tab0]
      · rintro j y S F hj ⟨u2, rfl, rfl⟩
        obtain ⟨hj2, rfl⟩ := rg_get hj
        have hj3 : a + j < last + 1 := by omega
        have e2 : (a : Int) + (j : Int) - (a : Int) = ((j : Nat) : Int) := by omega
        have e3 : (a : Int) + (j : Int) = ((a + j : Nat) : Int) := rfl
        repeat' walk_at "g1"
        rw [e2]
        refine ro_ixM (List.Mem.head _) (atI_n (range_get (by omega))) ?_
        repeat' walk_at "g1"
        · rename_i hc
          rw [e3]
          refine set_go (j := a + j) (List.Mem.head _) (ixN_n (by rw [List.length_map, List.length_range]; exact hj3)) ?_
          rw [setF_one, range_set]
          refine ⟨_, rfl, ?_⟩
          refine congrArg (fun z => [(D, MO.lst z)]) (List.map_congr_left fun n _ => ?_)
          rw [MS.tabS hla.1 n]
          by_cases hn : n = a + j
          · rw [if_pos hn, if_pos ⟨hn, hc⟩]
          · rw [if_neg hn, if_neg fun z => hn z.1]
        · rename_i hc
          refine congrArg (fun z => [(D, MO.lst z)]) (List.map_congr_left fun n _ => ?_)
          rw [MS.tabS hla.1 n, if_neg fun z => by rw [hc] at z; exact absurd z.2 (by decide)]
      · rintro S F ⟨u2, rfl, rfl⟩
        rw [rg_len]
        refine ⟨_, _, rfl, ?_⟩
        refine congrArg (fun z => [(D, MO.lst z)]) (List.map_congr_left fun n hn => ?_)
        have := List.mem_range.mp hn
        rw [tabE (by omega)]
    · rintro S F ⟨u2, u4, rfl, rfl⟩
      rw [List.length_map, List.length_map, List.take_length]
      repeat' walk_at "g1"
      refine ends_full ⟨D, tabL l last, rfl, by rw [tabC_L], fun x' l' last' e h' => ?_⟩
      simp only [List.cons.injEq, SV.d.injEq, PyData.int.injEq, and_true] at e
      obtain ⟨rfl, e⟩ := e
      cases hx.inj h'
      rw [show last' = last by omega]

abbrev s_u_law_base_of : Stmt := topS 34
theorem sc_u_law_base_of : FnScope ["numbers", "found", "a"] ["numbers"] (defScope s_u_law_base_of) := ⟨rfl, rfl, rfl, by decide +kernel, rfl, by decide +kernel, by decide +kernel⟩
theorem okO_u_law_base_of {f : Addr} {fd : FuncData} (F : Fun K "_law_base_of" "_law_base_of" s_u_law_base_of f fd) (B : Bt mg)
    (D_u_law_sums : DefOk P w K mg base 1 "_law_sums" ["numbers", "last"] ((c_sums).sp K T)) :
    FnOk P w K mg base CX0 2 f fd ["numbers"] ((c_baseof).sp K T) := by
  refine ok_ct (c_baseof) F sc_u_law_base_of rfl fun cdv A outer s H E hr => ⟨_, (pss_cons (ps_asg (pe_lst pa_nil) (pg_name (i := 1) sc_u_law_base_of.nd rfl (by first | exact Or.inl rfl | exact Or.inr rfl)))
      (pss_cons (ps_for PassesOwn.never rfl (k_seq (K := K) rfl (pe_callB (k_sortedS (w := w) rfl rfl) (by rfl) B.b_sorted (by decide +kernel) (pa_cons (pe_callTy (k_setI (K := K) (w := w) rfl rfl rfl) (by rfl) B.b_set (by decide +kernel) (pa_cons (pe_callTy (k_list (K := K) rfl) (by rfl) B.b_list (by decide +kernel) (pa_cons (pv 0) pa_nil)) pa_nil)) pa_nil))) (pg_name (i := 2) sc_u_law_base_of.nd rfl (by first | exact Or.inl rfl | exact Or.inr rfl)) (pss_one (ps_if (pt_not (pt_val (pe_ix (k_ix (K := K) rfl) (pe_dcall D_u_law_sums hr (by rfl) (pa_cons (pv 1) (pa_cons (pv 2) pa_nil))) (pv 2) (fun _ _ => rfl)))) (pss_one (ps_expr (k_bm (K := K) rfl (pe_bm PySem.F.plainAttrs_list PySem.F.slot_list_append PySem.F.type_list_append mt_append (pv 1) (pa_cons (pv 2) pa_nil))))) pss_nil)))
      (pss_one (ps_ret (pe_callTy (k_tuple (K := K) rfl) (by rfl) B.b_tuple (by decide +kernel) (pa_cons (pv 1) pa_nil)))))), fun C xs hn hp => ?_⟩
  obtain ⟨x, l, rfl, hx, hl, hll⟩ := hp
  change ST C _ [some x, none, none] [] _
  repeat' walk_at "g1"
  refine tj_lst ?_
  repeat' walk_at "g0"
  refine ⟨by decide, fun fd hfd => ?_⟩
  repeat' walk_at "g0"
  refine st_seq (st_for (it_seqX (tj_sub (tj_frz (tj_sortset ?_)))))
  repeat' walk_at "g1"
  refine rc_listD hx.symm ?_
  repeat' walk_at "g1"
  refine ⟨l.map fun (n : Nat) => (n : Int), .inl (by rw [List.map_map]; rfl), by rw [List.length_map]; omega, fun out q h1 h2 hq => ?_⟩
  have hm : ∀ a ∈ l, a < 100001 := fun a ha => by have := hl a ha; omega
  obtain ⟨srt, hso, hmem, ho⟩ : ∃ srt : List Nat, srt.Pairwise (· < ·) ∧ (∀ a, a ∈ srt ↔ a ∈ l) ∧ out = srt.map fun (n : Nat) => (n : Int) := ⟨sortU 100001 l, sortU_sorted, fun a => mem_sortU hm, sortU_is hm h1 h2⟩
  refine ⟨q, out.map .int, _, rfl, by rw [List.map_map]; rfl, [(fd, _)], List.Sublist.refl _, _, .inr rfl, ?_⟩
  subst ho
  refine ⟨fun i S F => ∃ (found : List Nat) (u2 : Option SV), S = [some x, some (.m fd), u2] ∧ F = [(fd, .lst ((pN found).map .d))] ∧ BaseOf (srt.take i) found, ⟨[], none, rfl, rfl, by rw [List.take_zero]; exact baseOf_nil⟩, ?_, ?_⟩
  · rintro i y S F hi ⟨found, u2, rfl, rfl, hbo⟩
    rw [List.map_map, List.map_map, List.getElem?_map] at hi
    obtain ⟨a, ha, rfl⟩ := Option.map_eq_some_iff.mp hi
    have hal : a ∈ l := (hmem _).mp (List.mem_of_getElem? ha)
    have hla := hl a hal
    have e1 : srt.take (i + 1) = srt.take i ++ [a] := by rw [List.take_add_one, ha]; rfl
    have hfl : ∀ b ∈ found, 1 ≤ b ∧ b ≤ 1000000 := fun b hb => by
      have := hl b ((hmem _).mp (List.mem_of_mem_take (hbo.sub b hb)))
      omega
    have hlt : ∀ b ∈ srt.take i, b < a := fun b hb => by
      obtain ⟨j, hj, ej⟩ := List.mem_iff_getElem.mp hb
      rw [List.length_take] at hj
      rw [List.getElem_take] at ej
      obtain ⟨hi2, ei⟩ := List.getElem?_eq_some_iff.mp ha
      have := List.pairwise_iff_getElem.mp hso j i (by omega) hi2 (by omega)
      omega
    have hfn : found.length < 4000 := Nat.lt_of_le_of_lt hbo.len (by
      rw [List.length_take]
      have h3 : srt.length ≤ l.length := MS.nodup_len (hso.imp fun z => Nat.ne_of_lt z) fun b hb => (hmem b).mp hb
      omega)
    dsimp only [Function.comp]
    rw [e1]
    refine tg_name ?_
    dsimp only [List.set]
    refine st_out ?_
    repeat' walk_at "g1"
    refine cl_ctR [fd] (.cons (.inr ⟨fd, pN found, rfl, List.mem_cons_self, List.mem_cons_self, rfl⟩) (.cons (.inl rfl) .nil)) rfl ⟨.d (.list (pN found)), found, a, rfl, .inr rfl, hfl, by omega⟩ ?_
    rintro y F' ⟨p2, bs, rfl, rfl, hbs⟩
    cases hbs _ found a rfl (.inr rfl)
    refine ⟨.m _, fun q hq => ?_, fun hnf => ?_⟩
    · cases List.mem_singleton.mp hq
      exact .lst fun z hz => by
        obtain ⟨d, hd, rfl⟩ := List.mem_map.mp hz
        obtain ⟨n, _, rfl⟩ := List.mem_map.mp hd
        exact .bl _
    have hpf : fd ≠ p2 := fun e => hnf p2 (by simp) (by simp [e])
    dsimp only [List.cons_append, List.nil_append]
    repeat' walk_at "g1"
    refine ro_ixM (x := dB (smb found a)) (List.Mem.head _) (atI_n (map_get (tabL_get (Nat.le_refl _)))) ?_
    repeat' walk_at "g1"
    · rename_i hc
      try refine app_go (xs := (pN found).map .d) (List.Mem.tail _ (List.Mem.head _)) ?_
      repeat' walk_at "g1"
      refine app_go2 (xs := (pN found).map .d) (List.Mem.tail _ (List.Mem.head _)) (by rw [List.length_map, List.length_map]; omega) ?_
      rw [setF_two hpf]
      exact ⟨_, List.Sublist.cons _ (List.Sublist.refl _), found ++ [a], _, rfl, by rw [pN_snoc], hbo.more (smb_no.mp hc) hlt⟩
    · rename_i hc
      exact ⟨_, List.Sublist.cons _ (List.Sublist.refl _), found, _, rfl, rfl, hbo.skip (smb_iff.mp hc)⟩
  · rintro S F ⟨found, u2, rfl, rfl, hbo⟩
    rw [List.length_map, List.length_map, List.length_map, List.take_length] at hbo
    repeat' walk_at "g1"
    refine rc_tupleM (ds := pN found) (List.Mem.head _) ?_
    refine ends_of ⟨rfl, found, rfl, fun x' l' e h' => ?_⟩
    cases e
    cases hx.inj h'
    exact hbo.congr hmem

theorem ok_u_law_base_of {f : Addr} {fd : FuncData} (F : Fun K "_law_base_of" "_law_base_of" s_u_law_base_of f fd) (B : Bt mg)
    (D_u_law_sums : DefOk P w K mg base 1 "_law_sums" ["numbers", "last"] ((c_sums).sp K T)) :
    FnOk P w K mg base CX0 2 f fd ["numbers"] ((F_lbaseof).sp K T) := by
  exact (okO_u_law_base_of F B D_u_law_sums).imp (i_lbaseof)

abbrev s_u_law_common : Stmt := topS 31
theorem sc_u_law_common : FnScope ["a", "b", "k", "rest"] ["a", "b"] (defScope s_u_law_common) := ⟨rfl, rfl, rfl, by decide +kernel, rfl, by decide +kernel, by decide +kernel⟩
theorem ok_u_law_common {f : Addr} {fd : FuncData} (F : Fun K "_law_common" "_law_common" s_u_law_common f fd) (B : Bt mg) :
    FnOk P w K mg base CX0 1 f fd ["a", "b"] ((c_common).sp K T) := by
  refine ok_ct (c_common) F sc_u_law_common rfl fun cdv A outer s H E hr => ⟨_, (pss_cons (ps_for PassesOwn.never rfl (pi_range1 (by rfl) B.b_range (pa_cons pe_int pa_nil)) (pg_name (i := 2) sc_u_law_common.nd rfl (by first | exact Or.inl rfl | exact Or.inr rfl)) (pss_cons (ps_if (pt_cmpR (k_eqD (K := K) rfl hr.units) (pv 1) pe_int (nomark _)) (pss_one (ps_ret (pv 0))) pss_nil)
      (pss_cons (ps_asg (pe_op op_mod (pe_callTy call_int1 (by rfl) B.b_int (by decide +kernel) (pa_cons (pv 0) pa_nil)) (pv 1)) (pg_name (i := 3) sc_u_law_common.nd rfl (by first | exact Or.inl rfl | exact Or.inr rfl)))
      (pss_cons (ps_asg (pv 1) (pg_name (i := 0) sc_u_law_common.nd rfl (by first | exact Or.inl rfl | exact Or.inr rfl)))
      (pss_one (ps_asg (pv 3) (pg_name (i := 1) sc_u_law_common.nd rfl (by first | exact Or.inl rfl | exact Or.inr rfl))))))))
      (pss_one (ps_ret (pv 0)))), fun C xs hn hp => ?_⟩
  obtain ⟨a, b, rfl, h2⟩ := hp
  change ST C _ [some (dI a), some (dI b), none, none] [] _
  repeat' walk_at "g1"
  refine st_for (it_rng1 ?_)
  repeat' walk_at "g1"
  refine ⟨by decide, ?_⟩
  refine ⟨fun i S F => ∃ (x y : Nat) (u v : Option SV), S = [some (dI x), some (dI y), u, v] ∧ F = [] ∧ gcdInv a b i x y, ⟨a, b, _, _, rfl, rfl, rfl, .inr (.inl ⟨rfl, rfl, rfl⟩)⟩, ?_, ?_⟩
  · rintro i y S F hi ⟨x, z, u, v, rfl, rfl, inv⟩
    obtain ⟨_, rfl⟩ := rg_get hi
    repeat' walk_at "g1"
    · rename_i hc
      refine ends_of ⟨rfl, ?_⟩
      have hz : z = 0 := by omega
      subst hz
      have := inv.1
      rw [Nat.gcd_zero_right] at this
      show dI _ = dI _
      rw [this]
      rfl
    · rename_i hc
      have hz : z ≠ 0 := by omega
      exact ⟨_, _, _, _, by rw [mod_nat], rfl, gcdInv_step inv hz⟩
  · rintro S F ⟨x, z, u, v, rfl, rfl, inv⟩
    rw [rg_len] at inv
    repeat' walk_at "g1"
    refine ends_of ⟨rfl, ?_⟩
    show dI _ = dI _
    rw [gcdInv_end inv h2]
    rfl

abbrev s_u_law_gcd : Stmt := topS 35
theorem sc_u_law_gcd : FnScope ["numbers", "shared", "n"] ["numbers"] (defScope s_u_law_gcd) := ⟨rfl, rfl, rfl, by decide +kernel, rfl, by decide +kernel, by decide +kernel⟩
theorem okO_u_law_gcd {f : Addr} {fd : FuncData} (F : Fun K "_law_gcd" "_law_gcd" s_u_law_gcd f fd) (B : Bt mg)
    (D_u_law_common : DefOk P w K mg base 1 "_law_common" ["a", "b"] ((c_common).sp K T)) :
    FnOk P w K mg base CX0 2 f fd ["numbers"] ((c_lgcd).sp K T) := by
  refine ok_ct (c_lgcd) F sc_u_law_gcd rfl fun cdv A outer s H E hr => ⟨_, (pss_cons (ps_asg pe_int (pg_name (i := 1) sc_u_law_gcd.nd rfl (by first | exact Or.inl rfl | exact Or.inr rfl)))
      (pss_cons (ps_for PassesOwn.never rfl (k_seq (K := K) rfl (pv 0)) (pg_name (i := 2) sc_u_law_gcd.nd rfl (by first | exact Or.inl rfl | exact Or.inr rfl)) (pss_one (ps_asg (pe_dcall D_u_law_common hr (by rfl) (pa_cons (pv 1) (pa_cons (pv 2) pa_nil))) (pg_name (i := 1) sc_u_law_gcd.nd rfl (by first | exact Or.inl rfl | exact Or.inr rfl)))))
      (pss_one (ps_ret (pv 1))))), fun C xs hn hp => ?_⟩
  obtain ⟨x, l, rfl, hx, hl⟩ := hp
  change ST C _ [some x, none, none] [] _
  repeat' walk_at "g1"
  refine st_for (it_seqX ?_)
  repeat' walk_at "g1"
  refine ⟨_, hx, ?_⟩
  refine ⟨fun i S F => ∃ (g : Nat) (u2 : Option SV), g ≤ 1000000 ∧ (∀ d, d ∣ g ↔ ∀ a ∈ l.take i, d ∣ a) ∧ S = [some x, some (dI g), u2] ∧ F = [], ⟨0, none, by omega, fun d => ⟨(fun _ _ h => nomatch h), fun _ => Nat.dvd_zero d⟩, rfl, rfl⟩, ?_, ?_⟩
  · rintro i y S F hi ⟨g, u2, hg, hd, rfl, rfl⟩
    rw [List.map_map, List.getElem?_map] at hi
    obtain ⟨a, ha, rfl⟩ := Option.map_eq_some_iff.mp hi
    have hla := hl a (List.mem_of_getElem? ha)
    have e1 : l.take (i + 1) = l.take i ++ [a] := by rw [List.take_add_one, ha]; rfl
    dsimp only [Function.comp]
    rw [e1]
    repeat' walk_at "g1"
    refine cl_ct rfl ⟨g, a, rfl, Nat.lt_of_le_of_lt hla (by decide +kernel)⟩ ?_
    rintro y F' ⟨rfl, rfl⟩ _
    dsimp only [List.nil_append]
    repeat' walk_at "g1"
    have hga : Nat.gcd g a ≤ 1000000 := by
      by_cases h0 : a = 0
      · subst h0
        rw [Nat.gcd_zero_right]
        exact hg
      · exact Nat.le_trans (Nat.gcd_le_right _ (by omega)) hla
    refine ⟨Nat.gcd g a, _, hga, fun d => ?_, rfl, rfl⟩
    rw [Nat.dvd_gcd_iff, hd d]
    simp only [List.mem_append, List.mem_singleton, or_imp, forall_and, forall_eq]
  · rintro S F ⟨g, u2, hg, hd, rfl, rfl⟩
    rw [List.length_map, List.length_map, List.take_length] at hd
    repeat' walk_at "g1"
    refine ends_of ⟨rfl, g, rfl, fun x' l' e h' => ?_⟩
    cases e
    cases hx.inj h'
    exact Nat.dvd_antisymm (dvd_gcdL fun a ha => (hd g).mp (Nat.dvd_refl g) a ha) ((hd _).mpr fun a ha => gcdL_dvd ha)

theorem ok_u_law_gcd {f : Addr} {fd : FuncData} (F : Fun K "_law_gcd" "_law_gcd" s_u_law_gcd f fd) (B : Bt mg)
    (D_u_law_common : DefOk P w K mg base 1 "_law_common" ["a", "b"] ((c_common).sp K T)) :
    FnOk P w K mg base CX0 2 f fd ["numbers"] ((F_lgcd).sp K T) := by
  exact (okO_u_law_gcd F B D_u_law_common).imp (i_lgcd)

abbrev s_u_law_base : Stmt := topS 37
theorem sc_u_law_base : FnScope ["pool", "most", "turn", "first", "numbers", "k"] ["pool", "most"] (defScope s_u_law_base) := ⟨rfl, rfl, rfl, by decide +kernel, rfl, by decide +kernel, by decide +kernel⟩
theorem ok_u_law_base {f : Addr} {fd : FuncData} (F : Fun K "_law_base" "_law_base" s_u_law_base f fd) (B : Bt mg)
    (D_u_law_draw : DefOk P w K mg base 2 "_law_draw" ["pool", "many"] ((c_draw).sp K T))
    (D_u_law_base_of : DefOk P w K mg base 2 "_law_base_of" ["numbers"] ((_root_.G.F_lbaseof).sp K T))
    (D_u_law_gcd : DefOk P w K mg base 2 "_law_gcd" ["numbers"] ((_root_.G.F_lgcd).sp K T)) :
    FnOk P w K mg base CX0 3 f fd ["pool", "most"] ((c_base).sp K T) := by
  refine ok_ctb (c_base) F sc_u_law_base rfl fun cdv A outer s H E hr => ⟨_, (pss_cons (ps_asg (pe_dcall D_u_law_draw hr (by rfl) (pa_cons (pv 0) (pa_cons pe_int pa_nil))) (pg_name (i := 2) sc_u_law_base.nd rfl (by first | exact Or.inl rfl | exact Or.inr rfl)))
      (pss_cons (ps_if (pt_cmpR (k_eqD (K := K) rfl hr.units) (pv 2) pe_int (nomark _)) (pss_one (ps_ret (pe_ix (k_ix (K := K) rfl) (pe_tup (pa_cons (pe_tup (pa_cons pe_int pa_nil)) (pa_cons (pe_tup (pa_cons pe_int (pa_cons pe_int pa_nil))) (pa_cons (pe_tup (pa_cons pe_int (pa_cons pe_int pa_nil))) (pa_cons (pe_tup (pa_cons pe_int (pa_cons pe_int pa_nil))) (pa_cons (pe_tup (pa_cons pe_int (pa_cons pe_int (pa_cons pe_int pa_nil)))) (pa_cons (pe_tup (pa_cons pe_int (pa_cons pe_int (pa_cons pe_int pa_nil)))) (pa_cons (pe_tup (pa_cons pe_int (pa_cons pe_int (pa_cons pe_int pa_nil)))) (pa_cons (pe_tup (pa_cons pe_int (pa_cons pe_int (pa_cons pe_int (pa_cons pe_int pa_nil))))) pa_nil))))))))) (pe_dcall D_u_law_draw hr (by rfl) (pa_cons (pv 0) (pa_cons pe_int pa_nil))) (fun _ _ => rfl)))) pss_nil)
      (pss_cons (ps_asg (pe_op (k_addA (K := K) rfl) pe_int (pe_dcall D_u_law_draw hr (by rfl) (pa_cons (pv 0) (pa_cons (pe_callB (call_min2 rfl) (by rfl) B.b_min (by decide +kernel) (pa_cons (pe_op op_sub (pv 1) pe_int) (pa_cons pe_int pa_nil))) pa_nil)))) (pg_name (i := 3) sc_u_law_base.nd rfl (by first | exact Or.inl rfl | exact Or.inr rfl)))
      (pss_cons (ps_asg (pe_lst (pa_cons (pv 3) pa_nil)) (pg_name (i := 4) sc_u_law_base.nd rfl (by first | exact Or.inl rfl | exact Or.inr rfl)))
      (pss_cons (ps_for PassesOwn.never rfl (pi_range1 (by rfl) B.b_range (pa_cons (pe_op (k_addA (K := K) rfl) pe_int (pe_dcall D_u_law_draw hr (by rfl) (pa_cons (pv 0) (pa_cons pe_int pa_nil)))) pa_nil)) (pg_name (i := 5) sc_u_law_base.nd rfl (by first | exact Or.inl rfl | exact Or.inr rfl)) (pss_one (ps_expr (k_bm (K := K) rfl (pe_bm PySem.F.plainAttrs_list PySem.F.slot_list_append PySem.F.type_list_append mt_append (pv 4) (pa_cons (pe_op (k_addA (K := K) rfl) (pe_op (k_addA (K := K) rfl) (pv 3) pe_int) (pe_dcall D_u_law_draw hr (by rfl) (pa_cons (pv 0) (pa_cons (pv 1) pa_nil)))) pa_nil))))))
      (pss_cons (ps_if (pt_cmpR (k_neD (K := K) rfl hr.units) (pe_dcall D_u_law_gcd hr (by rfl) (pa_cons (pv 4) pa_nil)) pe_int (nomark _)) (pss_one (ps_expr (k_bm (K := K) rfl (pe_bm PySem.F.plainAttrs_list PySem.F.slot_list_append PySem.F.type_list_append mt_append (pv 4) (pa_cons (pe_op (k_addA (K := K) rfl) (pv 3) pe_int) pa_nil))))) pss_nil)
      (pss_one (ps_ret (pe_dcall D_u_law_base_of hr (by rfl) (pa_cons (pv 4) pa_nil)))))))))), fun C p mo xs hn hp => ?_⟩
  obtain ⟨hpool, most, rfl, hm1, hm2⟩ := hp
  change ST C _ [some (.m p), some (dI most), none, none, none, none] [(p, _)] _
  repeat' walk_at "g1"
  refine cl_draw1 hpool (by omega) fun turn mo ht0 ht1 hpool => ?_
  repeat' walk_at "g1"
  · refine cl_draw1 hpool (by omega) fun v mo hv0 hv1 hpool => ?_
    refine ro_ixA hv0 hv1 fun d hd => ?_
    have hl : ∃ l : List Nat, d = .tuple (pN l) ∧ checkB l = true ∧ MS.hd l ≤ 8 ∧ (∀ a ∈ l, a ≤ 9) ∧ l.length ≤ 6 := by
      simp only [List.mem_cons, List.not_mem_nil, or_false] at hd
      rcases hd with rfl | rfl | rfl | rfl | rfl | rfl | rfl | rfl
      · exact ⟨[1], rfl, by decide +kernel, by decide, by decide, by decide⟩
      · exact ⟨[2, 3], rfl, by decide +kernel, by decide, by decide, by decide⟩
      · exact ⟨[2, 5], rfl, by decide +kernel, by decide, by decide, by decide⟩
      · exact ⟨[3, 5], rfl, by decide +kernel, by decide, by decide, by decide⟩
      · exact ⟨[3, 4, 5], rfl, by decide +kernel, by decide, by decide, by decide⟩
      · exact ⟨[3, 5, 7], rfl, by decide +kernel, by decide, by decide, by decide⟩
      · exact ⟨[4, 6, 7], rfl, by decide +kernel, by decide, by decide, by decide⟩
      · exact ⟨[4, 5, 6, 7], rfl, by decide +kernel, by decide, by decide, by decide⟩
    obtain ⟨l, rfl, h1, h2, h3, h4⟩ := hl
    exact ⟨_, List.Sublist.refl _, hpool, l, rfl, fun most' e => ⟨Base.ofC h1, h2, fun a ha => by have := h3 a ha; omega, h4, fun a ha => by have := h3 a ha; omega⟩⟩
  obtain ⟨b, hb, hb1, hb2, hb3⟩ : ∃ b : Int, (if (7 : Int) < (most : Int) - 1 then (7 : Int) else (most : Int) - 1) = b ∧ 1 ≤ b ∧ b ≤ 7 ∧ b ≤ (most : Int) - 1 := ⟨_, rfl, by split <;> omega, by split <;> omega, by split <;> omega⟩
  refine rc_min2 ?_
  rw [hb]
  repeat' walk_at "g1"
  refine cl_draw1 hpool (by omega) fun v mo hv0 hv1 hpool => ?_
  repeat' walk_at "g1"
  obtain ⟨first, hf⟩ := Int.eq_ofNat_of_zero_le (show 0 ≤ 2 + v by omega)
  rw [hf]
  have hf1 : 2 ≤ first ∧ first ≤ 8 ∧ first ≤ most := by omega
  refine tj_lst ?_
  repeat' walk_at "g1"
  refine ⟨Nat.le_of_ble_eq_true rfl, fun nl hnl => ?_⟩
  have hpn : p ≠ nl := fun e => hnl (by rw [e]; exact List.mem_cons_self)
  repeat' walk_at "g0"
  refine st_seq (st_for (it_rng1 ?_))
  repeat' walk_at "g1"
  refine cl_draw2 hpn hpool (by omega) fun w mo hw0 hw1 hpool => ?_
  repeat' walk_at "g1"
  refine ⟨⟨by omega, by omega⟩, ?_⟩
  refine ⟨fun i S F => ∃ (ns : List Nat) (u5 : Option SV) (mo : MO), S = [some (.m p), some (dI most), some (dI turn), some (dI first), some (.m nl), u5] ∧ F = [(nl, .lst ((pN ns).map .d)), (p, mo)] ∧ isPool mo ∧ ns.length = i + 1 ∧ (∀ a ∈ ns, 1 ≤ a ∧ a ≤ most + 9 ∧ a ≤ 2 * most) ∧ first ∈ ns, ⟨[first], none, mo, rfl, rfl, hpool, rfl, fun a ha => by cases List.mem_singleton.mp ha; omega, List.mem_cons_self⟩, ?_, ?_⟩
  · rintro i y S F hi ⟨ns, u5, mo, rfl, rfl, hpool, hl, hns, hfm⟩
    obtain ⟨hi2, rfl⟩ := rg_get hi
    repeat' walk_at "g1"
    refine cl_draw2 hpn hpool (by omega) fun z mo hz0 hz1 hpool => ?_
    repeat' walk_at "g1"
    obtain ⟨c, hc⟩ := Int.eq_ofNat_of_zero_le (show 0 ≤ (first : Int) + 1 + z by omega)
    rw [hc]
    refine app_go2 (xs := (pN ns).map .d) (List.Mem.head _) (by rw [List.length_map, List.length_map]; omega) ?_
    rw [setF_head (by simpa using Ne.symm hpn)]
    exact ⟨ns ++ [c], _, mo, rfl, by rw [pN_snoc], hpool, by rw [List.length_append, hl]; rfl, fun a ha => by
      rcases List.mem_append.mp ha with ha | ha
      · exact hns a ha
      · cases List.mem_singleton.mp ha
        omega, List.mem_append_left _ hfm⟩
  rintro S F ⟨ns, u5, mo, rfl, rfl, hpool, hl, hns, hfm⟩
  rw [rg_len] at hl
  repeat' walk_at "g0"
  refine st_cut (fun S F => ∃ ns : List Nat, S = [some (.m p), some (dI most), some (dI turn), some (dI first), some (.m nl), u5] ∧ F = [(nl, .lst ((pN ns).map .d)), (p, mo)] ∧ ns.length ≤ 6 ∧ ns ≠ [] ∧ (∀ a ∈ ns, 1 ≤ a ∧ a ≤ most + 9 ∧ a ≤ 2 * most) ∧ gcdL ns = 1 ∧ first ∈ ns) ?_ ?_
  · repeat' walk_at "g1"
    refine cl_fR (c := F_lgcd) (lN ns, ns) [nl] (.cons (.inr ⟨nl, pN ns, rfl, List.mem_cons_self, List.mem_cons_self, rfl⟩) .nil) rfl rfl ⟨.inr rfl, fun a ha => by have := hns a ha; omega⟩ (.int _) ?_
    obtain ⟨g, hg⟩ : ∃ g, g = gcdL ns := ⟨_, rfl⟩
    dsimp only
    rw [← hg]
    repeat' walk_at "g1"
    · rename_i hc
      rw [show (first : Int) + 1 = ((first + 1 : Nat) : Int) from rfl]
      refine app_go2 (xs := (pN ns).map .d) (List.Mem.head _) (by rw [List.length_map, List.length_map]; omega) ?_
      rw [setF_head (by simpa using Ne.symm hpn)]
      refine ⟨ns ++ [first + 1], rfl, by rw [pN_snoc], by rw [List.length_append]; show _ + 1 ≤ 6; omega, by simp, fun a ha => ?_, ?_, List.mem_append_left _ hfm⟩
      · rcases List.mem_append.mp ha with ha | ha
        · exact hns a ha
        · cases List.mem_singleton.mp ha
          omega
      · have d1 := gcdL_dvd (l := ns ++ [first + 1]) (List.mem_append_left _ hfm)
        have d2 := gcdL_dvd (l := ns ++ [first + 1]) (List.mem_append_right _ List.mem_cons_self)
        have := Nat.dvd_sub d2 d1
        rw [Nat.add_sub_cancel_left] at this
        exact Nat.dvd_one.mp this
    · rename_i hc
      exact ⟨ns, rfl, rfl, by omega, (fun e => by rw [e] at hfm; cases hfm), hns, by omega, hfm⟩
  rintro S F ⟨ns, rfl, rfl, hln, hne, hns, hg, hfm⟩
  refine st_ret (tj_call (tl_cons (tj_frzV ?_)))
  repeat' walk_at "g1"
  refine ⟨_, _, .m List.mem_cons_self, ?_⟩
  rw [show [(nl, MO.lst ((pN ns).map SV.d)), (p, mo)].filter (fun q => decide (q.1 ≠ nl)) = [(p, mo)] by simp [hpn]]
  repeat' walk_at "g1"
  refine cl_f2 ⟨.inr rfl, fun a ha => by have := hns a ha; omega, by omega⟩ ?_
  obtain ⟨l, hl⟩ : ∃ l, l = baseL ns := ⟨_, rfl⟩
  have hbo : BaseOf ns l := by rw [hl]; exact baseL_ok ns
  rw [← hl]
  refine ⟨_, List.Sublist.refl _, hpool, l, rfl, fun most' e => ?_⟩
  have e : (most : Int) = most' := by simpa using e
  cases (show most' = most by omega)
  have hbase := hbo.base (fun a ha => (hns a ha).1) hne hg
  refine ⟨hbase, ?_, fun a ha => (hns a (hbo.sub a ha)).2.1, Nat.le_trans hbo.len hln, fun a ha => by have := (hns a (hbo.sub a ha)).2.2; omega⟩
  -- the first member is at most first
  have := hbo.all first hfm
  cases this with
  | zero => omega
  | add ha _ =>
    have := hbase.hd_le _ ha
    omega

abbrev s_u_law_two : Stmt := topS 43
theorem sc_u_law_two : FnScope ["pool", "one", "turn", "two", "a"] ["pool"] (defScope s_u_law_two) := ⟨rfl, rfl, rfl, by decide +kernel, rfl, by decide +kernel, by decide +kernel⟩
theorem ok_u_law_two {f : Addr} {fd : FuncData} (F : Fun K "_law_two" "_law_two" s_u_law_two f fd) (B : Bt mg)
    (D_u_law_base : DefOk P w K mg base 3 "_law_base" ["pool", "most"] ((c_base).sp K T))
    (D_u_law_draw : DefOk P w K mg base 2 "_law_draw" ["pool", "many"] ((c_draw).sp K T))
    (D_u_law_base_of : DefOk P w K mg base 2 "_law_base_of" ["numbers"] ((_root_.G.F_lbaseof).sp K T)) :
    FnOk P w K mg base CX0 4 f fd ["pool"] ((c_two).sp K T) := by
  refine ok_ctb (c_two) F sc_u_law_two rfl fun cdv A outer s H E hr => ⟨_, (pss_cons (ps_asg (pe_dcall D_u_law_base hr (by rfl) (pa_cons (pv 0) (pa_cons pe_int pa_nil))) (pg_name (i := 1) sc_u_law_two.nd rfl (by first | exact Or.inl rfl | exact Or.inr rfl)))
      (pss_cons (ps_asg (pe_dcall D_u_law_draw (hr.mono (by decide)) (by rfl) (pa_cons (pv 0) (pa_cons pe_int pa_nil))) (pg_name (i := 2) sc_u_law_two.nd rfl (by first | exact Or.inl rfl | exact Or.inr rfl)))
      (pss_cons (ps_asg (pe_dcall D_u_law_base hr (by rfl) (pa_cons (pv 0) (pa_cons pe_int pa_nil))) (pg_name (i := 3) sc_u_law_two.nd rfl (by first | exact Or.inl rfl | exact Or.inr rfl)))
      (pss_cons (ps_if (pt_cmpR (k_eqD (K := K) rfl hr.units) (pv 2) pe_int (nomark _)) (pss_one (ps_asg (pe_dcall D_u_law_base_of (hr.mono (by decide)) (by rfl) (pa_cons (pe_op (k_addA (K := K) rfl) (pv 1) (pe_tup (pa_cons (pe_op (k_addA (K := K) rfl) pe_int (pe_dcall D_u_law_draw (hr.mono (by decide)) (by rfl) (pa_cons (pv 0) (pa_cons pe_int pa_nil)))) pa_nil))) pa_nil)) (pg_name (i := 3) sc_u_law_two.nd rfl (by first | exact Or.inl rfl | exact Or.inr rfl)))) pss_nil)
      (pss_cons (ps_if (pt_cmpR (k_eqD (K := K) rfl hr.units) (pv 2) pe_int (nomark _)) (pss_one (ps_asg (pe_dcall D_u_law_base_of (hr.mono (by decide)) (by rfl) (pa_cons (pe_op (k_addA (K := K) rfl) (pe_callTy (k_tuple (K := K) rfl) (by rfl) B.b_tuple (by decide +kernel) (pa_cons (pe_lc (own := [("a", 4)]) rfl sc_u_law_two.nd (k_seq (K := K) rfl (pv 1)) (blkOk_by (N := ["pool", "one", "turn", "two", "a"]) (sc := defScope s_u_law_two) (by decide +kernel)) (fun _ _ _ _ _ => (pg_name (i := 4) sc_u_law_two.nd rfl (by first | exact Or.inl rfl | exact Or.inr rfl))) (fun _ _ _ _ _ => pts_nil) (fun _ _ _ _ _ => (pe_op (k_addA (K := K) rfl) (pv 4) (pe_ix (k_ix (K := K) rfl) (pv 1) pe_int (fun _ _ => rfl))))) pa_nil)) (pe_tup (pa_cons (pe_op (k_addA (K := K) rfl) (pe_op op_mul (pe_ix (k_ix (K := K) rfl) (pv 1) pe_int (fun _ _ => rfl)) (pe_ix (k_ix (K := K) rfl) (pv 1) (pe_un un_neg pe_int) (fun _ _ => rfl))) pe_int) (pa_cons (pe_op (k_addA (K := K) rfl) (pe_op op_mul (pe_ix (k_ix (K := K) rfl) (pv 1) pe_int (fun _ _ => rfl)) (pe_ix (k_ix (K := K) rfl) (pv 1) (pe_un un_neg pe_int) (fun _ _ => rfl))) pe_int) pa_nil)))) pa_nil)) (pg_name (i := 3) sc_u_law_two.nd rfl (by first | exact Or.inl rfl | exact Or.inr rfl)))) pss_nil)
      (pss_one (ps_ret (pe_ifExp (pt_cmpR (k_eqD (K := K) rfl hr.units) (pe_dcall D_u_law_draw (hr.mono (by decide)) (by rfl) (pa_cons (pv 0) (pa_cons pe_int pa_nil))) pe_int (nomark _)) (pe_tup (pa_cons (pv 1) (pa_cons (pv 3) pa_nil))) (pe_tup (pa_cons (pv 3) (pa_cons (pv 1) pa_nil))))))))))), fun C p mo xs hn hp => ?_⟩
  obtain ⟨hpool, rfl⟩ := hp
  change ST C _ [some (.m p), none, none, none, none] [(p, _)] _
  refine st_seq ?_
  repeat' walk_at "g1"
  refine cl_base1 (most := 8) hpool (by decide) fun l1 mo hl1 hpool => ?_
  repeat' walk_at "g0"
  refine st_seq ?_
  repeat' walk_at "g0"
  refine cl_draw1 hpool (by omega) fun turn mo ht0 ht1 hpool => ?_
  repeat' walk_at "g0"
  refine st_seq ?_
  repeat' walk_at "g0"
  refine cl_base1 (most := 8) hpool (by decide) fun l0 mo hl0 hpool => ?_
  repeat' walk_at "g0"
  have hb1 := hl1.T
  have hne1 : l1 ≠ [] := hl1.b.ne
  have hd1 := hl1.hd
  have hp1 := hl1.b.hd_pos
  have hle1 := hl1.le
  have hlst1 := hle1 _ (MS.lst_mem hl1.b.ne)
  have hlen1 := hl1.len
  refine st_cut (fun S F => ∃ (l2 : List Nat) (u4 : Option SV) (mo : MO), S = [some (.m p), some (tN l1), some (dI turn), some (tN l2), u4] ∧ F = [(p, mo)] ∧ isPool mo ∧ BaseT l2 ∧ ∃ x, 1 ≤ x ∧ x ≤ 60 ∧ both l1 l2 x) ?_ ?_
  · repeat' walk_at "g1"
    · refine cl_draw1 hpool (by omega) fun d mo hd0 hd1' hpool => ?_
      obtain ⟨d, rfl⟩ := Int.eq_ofNat_of_zero_le hd0
      repeat' walk_at "g1"
      refine ro_addT (by rw [List.length_map]; show _ + 1 ≤ _; omega) ?_
      rw [show pN l1 ++ [PyData.int (1 + (d : Int))] = pN (l1 ++ [1 + d]) by rw [show (1 : Int) + (d : Int) = ((1 + d : Nat) : Int) by omega]; simp [pN]]
      repeat' walk_at "g1"
      have hns : ∀ a ∈ l1 ++ [1 + d], 1 ≤ a ∧ a ≤ 145 := fun a ha => by
        rcases List.mem_append.mp ha with ha | ha
        · exact ⟨hl1.b.pos a ha, by have := hle1 a ha; omega⟩
        · cases List.mem_singleton.mp ha
          omega
      refine cl_f2 ⟨.inl rfl, fun a ha => by have := hns a ha; omega, by rw [List.length_append]; show _ + 1 < _; omega⟩ ?_
      repeat' walk_at "g1"
      exact ⟨_, _, mo, rfl, rfl, hpool, BaseT.of hns (gcd_sub (fun a ha => List.mem_append_left _ ha) hl1.b.gcd) (by rw [List.length_append]; show _ + 1 ≤ _; omega) (List.mem_append_left _ (hd_mem hl1.b.ne)) (by omega), MS.hd l1, hp1, by omega, .one (hd_mem hne1), (sm_baseL _ _).mpr (.one (List.mem_append_left _ (hd_mem hne1)))⟩
    · exact ⟨l0, _, mo, rfl, rfl, hpool, hl0.T, both_x hl1 hl0⟩
  rintro S F ⟨l2, u4, mo, rfl, rfl, hpool, hb2, hx⟩
  refine st_cut (fun S F => ∃ (l2 : List Nat) (u4 : Option SV) (mo : MO), S = [some (.m p), some (tN l1), some (dI turn), some (tN l2), u4] ∧ F = [(p, mo)] ∧ isPool mo ∧ BaseT l2 ∧ ∃ x, 1 ≤ x ∧ x ≤ 60 ∧ both l1 l2 x) ?_ ?_
  · repeat' walk_at "g1"
    · refine (tj_ev (x := .d (.list (l1.map fun (a : Nat) => PyData.int ((a : Int) + (MS.hd l1 : Nat))))) ?_ ?_)
      · repeat' walk_at "e1"
      repeat' walk_at "e1"
      have hml : MS.hd l1 * MS.lst l1 ≤ 8 * 17 := Nat.mul_le_mul hd1 hlst1
      rw [← Int.natCast_mul]
      obtain ⟨n, hn⟩ : ∃ n, n = MS.hd l1 * MS.lst l1 := ⟨_, rfl⟩
      rw [← hn] at hml ⊢
      rw [show (l1.map fun (a : Nat) => PyData.int ((a : Int) + (MS.hd l1 : Nat))) ++ [PyData.int ((n : Int) + 1), PyData.int ((n : Int) + 2)] = pN (l1.map (· + MS.hd l1) ++ [n + 1, n + 2]) by simp [pN]]
      have hns : ∀ a ∈ l1.map (· + MS.hd l1) ++ [n + 1, n + 2], 1 ≤ a ∧ a ≤ 145 := fun a ha => by
        rcases List.mem_append.mp ha with ha | ha
        · obtain ⟨b, hb, rfl⟩ := List.mem_map.mp ha
          have := hle1 b hb
          omega
        · simp only [List.mem_cons, List.not_mem_nil, or_false] at ha
          omega
      repeat' walk_at "e1"
      refine cl_f2 ⟨.inl rfl, fun a ha => by have := hns a ha; omega, by rw [List.length_append, List.length_map]; show _ + 2 < _; omega⟩ ?_
      repeat' walk_at "e1"
      exact ⟨_, _, mo, rfl, rfl, hpool, BaseT.of hns (gcd_consec (a := n + 1) (List.mem_append_right _ (by simp)) (List.mem_append_right _ (by simp))) (by rw [List.length_append, List.length_map]; show _ + 2 ≤ _; omega) (List.mem_append_left _ (List.mem_map.mpr ⟨_, hd_mem hl1.b.ne, rfl⟩)) (by omega), MS.hd l1 + MS.hd l1, by omega, by omega, (Sm.one (hd_mem hne1)).plus (.one (hd_mem hne1)), (sm_baseL _ _).mpr (.one (List.mem_append_left _ (List.mem_map.mpr ⟨_, hd_mem hne1, rfl⟩)))⟩
    · exact ⟨l2, _, mo, rfl, rfl, hpool, hb2, hx⟩
  rintro S F ⟨l2, u4, mo, rfl, rfl, hpool, hb2, hx⟩
  repeat' walk_at "g1"
  refine cl_draw1 hpool (by omega) fun d mo hd0 hd1' hpool => ?_
  repeat' walk_at "g1"
  · exact ⟨_, List.Sublist.refl _, hpool, l1, l2, rfl, hb1, hb2, hx⟩
  · exact ⟨_, List.Sublist.refl _, hpool, l2, l1, rfl, hb2, hb1, hx.imp fun x h => ⟨h.1, h.2.1, h.2.2.2, h.2.2.1⟩⟩

abbrev s_u_law_bound : Stmt := topS 36
theorem sc_u_law_bound : FnScope ["base"] ["base"] (defScope s_u_law_bound) := ⟨rfl, rfl, rfl, by decide +kernel, rfl, by decide +kernel, by decide +kernel⟩
theorem okO_u_law_bound {f : Addr} {fd : FuncData} (F : Fun K "_law_bound" "_law_bound" s_u_law_bound f fd) (B : Bt mg) :
    FnOk P w K mg base CX0 1 f fd ["base"] ((c_bound).sp K T) := by
  refine ok_ct (c_bound) F sc_u_law_bound rfl fun cdv A outer s H E hr => ⟨_, (pss_one (ps_ret (pe_op (k_addA (K := K) rfl) (pe_op op_mul (pe_ix (k_ix (K := K) rfl) (pv 0) pe_int (fun _ _ => rfl)) (pe_ix (k_ix (K := K) rfl) (pv 0) (pe_un un_neg pe_int) (fun _ _ => rfl))) (pe_ix (k_ix (K := K) rfl) (pv 0) (pe_un un_neg pe_int) (fun _ _ => rfl))))), fun C xs hn hp => ?_⟩
  obtain ⟨l, rfl, hb⟩ := hp
  have hbd := hb.bd
  change ST C _ [some (tN l)] [] _
  repeat' walk_at "g1"
  refine ro_hd hb.b.ne ?_
  repeat' walk_at "g1"
  refine ro_lst hb.b.ne ?_
  repeat' walk_at "g1"
  refine ro_lst hb.b.ne ?_
  repeat' walk_at "g1"
  refine ends_of ⟨rfl, _, by rw [← Int.natCast_mul, ← Int.natCast_add], fun l' e => ?_⟩
  cases tN_inj e
  rfl

theorem ok_u_law_bound {f : Addr} {fd : FuncData} (F : Fun K "_law_bound" "_law_bound" s_u_law_bound f fd) (B : Bt mg) :
    FnOk P w K mg base CX0 1 f fd ["base"] ((F_bound).sp K T) := by
  exact (okO_u_law_bound F B).imp (i_bound)

abbrev s_u_law_row : Stmt := topS 38
theorem sc_u_law_row : FnScope ["base", "table", "found", "r", "n"] ["base"] (defScope s_u_law_row) := ⟨rfl, rfl, rfl, by decide +kernel, rfl, by decide +kernel, by decide +kernel⟩
theorem okO_u_law_row {f : Addr} {fd : FuncData} (F : Fun K "_law_row" "_law_row" s_u_law_row f fd) (B : Bt mg)
    (D_u_law_sums : DefOk P w K mg base 1 "_law_sums" ["numbers", "last"] ((c_sums).sp K T))
    (D_u_law_bound : DefOk P w K mg base 1 "_law_bound" ["base"] ((_root_.G.F_bound).sp K T)) :
    FnOk P w K mg base CX0 2 f fd ["base"] ((c_lrow).sp K T) := by
  refine ok_ct (c_lrow) F sc_u_law_row rfl fun cdv A outer s H E hr => ⟨_, (pss_cons (ps_asg (pe_dcall D_u_law_sums hr (by rfl) (pa_cons (pv 0) (pa_cons (pe_dcall D_u_law_bound hr (by rfl) (pa_cons (pv 0) pa_nil)) pa_nil))) (pg_name (i := 1) sc_u_law_row.nd rfl (by first | exact Or.inl rfl | exact Or.inr rfl)))
      (pss_cons (ps_asg (pe_lst pa_nil) (pg_name (i := 2) sc_u_law_row.nd rfl (by first | exact Or.inl rfl | exact Or.inr rfl)))
      (pss_cons (ps_for PassesOwn.never rfl (pi_range1 (by rfl) B.b_range (pa_cons (pe_ix (k_ix (K := K) rfl) (pv 0) pe_int (fun _ _ => rfl)) pa_nil)) (pg_name (i := 3) sc_u_law_row.nd rfl (by first | exact Or.inl rfl | exact Or.inr rfl)) (pss_cons (ps_asg (pv 3) (pg_name (i := 4) sc_u_law_row.nd rfl (by first | exact Or.inl rfl | exact Or.inr rfl)))
      (pss_cons (ps_while PassesOwn.never (pt_not (pt_val (pe_ix (k_ix (K := K) rfl) (pv 1) (pv 4) (fun _ _ => rfl)))) (pss_one (ps_asg (pe_op (k_addA (K := K) rfl) (pv 4) (pe_ix (k_ix (K := K) rfl) (pv 0) pe_int (fun _ _ => rfl))) (pg_name (i := 4) sc_u_law_row.nd rfl (by first | exact Or.inl rfl | exact Or.inr rfl)))))
      (pss_one (ps_expr (k_bm (K := K) rfl (pe_bm PySem.F.plainAttrs_list PySem.F.slot_list_append PySem.F.type_list_append mt_append (pv 2) (pa_cons (pv 4) pa_nil))))))))
      (pss_one (ps_ret (pe_callTy (k_tuple (K := K) rfl) (by rfl) B.b_tuple (by decide +kernel) (pa_cons (pv 2) pa_nil))))))), fun C xs hn hp => ?_⟩
  obtain ⟨l, rfl, hb⟩ := hp
  have hbd := hb.bd
  obtain ⟨row, hrow⟩ := row_any (l := l) (m := MS.hd l) hb.b.hd_pos hb.b.pos hb.b.gcd
  have hrb := G.RowN.bd hb hrow
  have hrl := hrow.le hb.b.hd_pos (so_last hb.b.so)
  change ST C _ [some (tN l), none, none, none, none] [] _
  repeat' walk_at "g1"
  refine cl_f1 hb ?_
  obtain ⟨n, hn⟩ : ∃ n, n = MS.hd l * MS.lst l + MS.lst l := ⟨_, rfl⟩
  rw [← hn]
  repeat' walk_at "g1"
  refine cl_ct rfl ⟨tN l, l, n, rfl, .inl rfl, fun a ha => ⟨hb.b.pos a ha, Nat.le_trans (hb.le a ha) (by decide)⟩, by omega⟩ ?_
  rintro y F' ⟨p, bs, rfl, rfl, hbs⟩ _
  cases hbs (tN l) l n rfl (.inl rfl)
  dsimp only [List.cons_append, List.nil_append]
  repeat' walk_at "g1"
  refine tj_lst ?_
  repeat' walk_at "g1"
  refine ⟨by decide, fun fd hfd => ?_⟩
  have hpf : p ≠ fd := fun e => hfd (by rw [e]; exact List.mem_cons_self)
  repeat' walk_at "g0"
  refine st_seq (st_for (it_rng1 ?_))
  repeat' walk_at "g1"
  refine ro_hd hb.b.ne ?_
  repeat' walk_at "g1"
  refine ⟨⟨by omega, by omega⟩, ?_⟩
  refine ⟨fun i S F => ∃ u3 u4 : Option SV, S = [some (tN l), some (.m p), some (.m fd), u3, u4] ∧ F = [(fd, .lst ((pN (row.take i)).map .d)), (p, .lst ((tabL l n).map .d))], ⟨_, _, rfl, rfl⟩, ?_, ?_⟩
  · rintro i y S F hi ⟨u3, u4, rfl, rfl⟩
    obtain ⟨hi2, rfl⟩ := rg_get hi
    have him : i < MS.hd l := by omega
    obtain ⟨v, ev, h1, h2, h3⟩ := hrow.2 i him
    have hvl := hrl v (List.mem_of_getElem? ev)
    have hvn : v ≤ n := by
      have : (MS.hd l - 1) * MS.lst l ≤ MS.hd l * MS.lst l := Nat.mul_le_mul_right _ (Nat.sub_le _ _)
      omega
    have hiv : i ≤ v := by rw [← h2]; exact Nat.mod_le _ _
    rw [show (0 : Int) + (i : Int) = ((i : Nat) : Int) by omega]
    repeat' walk_at "g0"
    refine st_seq ?_
    repeat' walk_at "g0"
    refine st_seq ?_
    refine st_while (fun k S F => ∃ c : Nat, k = v - c ∧ c ≤ v ∧ c % MS.hd l = i ∧ S = [some (tN l), some (.m p), some (.m fd), some (dI i), some (dI c)] ∧ F = [(fd, .lst ((pN (row.take i)).map .d)), (p, .lst ((tabL l n).map .d))]) ⟨_, i, rfl, hiv, Nat.mod_eq_of_lt him, rfl, rfl⟩ ?_
    rintro k S F ⟨c, rfl, hcv, hcm, rfl, rfl⟩
    repeat' walk_at "g1"
    refine ro_ixM (x := dB (smb l c)) (List.Mem.tail _ (List.Mem.head _)) (atI_n (map_get (tabL_get (by omega)))) ?_
    repeat' walk_at "g1"
    · rename_i hc
      refine ro_hd hb.b.ne ?_
      repeat' walk_at "g1"
      have hne : c ≠ v := fun e => by rw [e, smb_iff.mpr h1] at hc; cases hc
      have hcv2 : c + MS.hd l ≤ v := by
        have a1 := Nat.div_add_mod c (MS.hd l)
        have a2 := Nat.div_add_mod v (MS.hd l)
        have a3 : c / MS.hd l < v / MS.hd l := by
          apply Nat.lt_of_not_le
          intro z
          have := Nat.mul_le_mul_left (MS.hd l) z
          omega
        have a4 : MS.hd l * (c / MS.hd l + 1) ≤ MS.hd l * (v / MS.hd l) := Nat.mul_le_mul_left _ a3
        rw [Nat.mul_add, Nat.mul_one] at a4
        omega
      exact ⟨v - (c + MS.hd l), by omega, c + MS.hd l, rfl, hcv2, by rw [Nat.add_mod_right]; exact hcm, rfl, rfl⟩
    · rename_i hc
      have hs : Sm l c := smb_iff.mp (by simpa using hc)
      have hcv3 : c = v := Nat.le_antisymm hcv (h3 c hs hcm)
      subst hcv3
      refine app_go2 (xs := (pN (row.take i)).map .d) (List.Mem.head _) (by rw [List.length_map, List.length_map, List.length_take]; omega) ?_
      rw [setF_head (by simpa using Ne.symm hpf), pN_snoc]
      refine ⟨_, _, rfl, ?_⟩
      rw [show row.take (i + 1) = row.take i ++ [c] by rw [List.take_add_one, ev]; rfl]
  · rintro S F ⟨u3, u4, rfl, rfl⟩
    rw [rg_len, show (Int.toNat (MS.hd l : Int)) = row.length by rw [Int.toNat_natCast, hrow.1], List.take_length]
    repeat' walk_at "g1"
    refine rc_tupleM (ds := pN row) (List.Mem.head _) ?_
    refine ends_of ⟨rfl, row, rfl, fun l' e => ?_⟩
    cases tN_inj e
    exact hrow

theorem ok_u_law_row {f : Addr} {fd : FuncData} (F : Fun K "_law_row" "_law_row" s_u_law_row f fd) (B : Bt mg)
    (D_u_law_sums : DefOk P w K mg base 1 "_law_sums" ["numbers", "last"] ((c_sums).sp K T))
    (D_u_law_bound : DefOk P w K mg base 1 "_law_bound" ["base"] ((_root_.G.F_bound).sp K T)) :
    FnOk P w K mg base CX0 2 f fd ["base"] ((F_least_row).sp K T) := by
  exact (okO_u_law_row F B D_u_law_sums D_u_law_bound).imp (i_lrow)

abbrev s_u_law_spots : Stmt := topS 27
theorem sc_u_law_spots : FnScope ["value", "path", "found", "k"] ["value", "path"] (defScope s_u_law_spots) := ⟨rfl, rfl, rfl, by decide +kernel, rfl, by decide +kernel, by decide +kernel⟩
theorem step_u_law_spots {f : Addr} {fd : FuncData} (F : Fun K "_law_spots" "_law_spots" s_u_law_spots f fd) (B : Bt mg) {n : Nat} (D_u_law_spots : DefOk P w K mg base n "_law_spots" ["value", "path"] ((c_spots n).sp K T)) :
    FnOk P w K mg base CX0 (n + 1) f fd ["value", "path"] ((c_spots (n + 1)).sp K T) := by
  refine ok_ct (c_spots (n + 1)) F sc_u_law_spots rfl fun cdv A outer s H E hr => ⟨_, (pss_cons (ps_asg (pe_lst (pa_cons (pv 1) pa_nil)) (pg_name (i := 2) sc_u_law_spots.nd rfl (by first | exact Or.inl rfl | exact Or.inr rfl)))
      (pss_cons (ps_if (pt_val (pe_callB (k_isi (K := K) rfl) (by rfl) B.b_isinstance (by decide +kernel) (pa_cons (pv 0) (pa_cons (pe_bltn (v := .ty "tuple") (by rfl) B.b_tuple (by decide +kernel) rfl) pa_nil)))) (pss_one (ps_for PassesOwn.never rfl (pi_range1 (by rfl) B.b_range (pa_cons (pe_callB (k_len (K := K) rfl) (by rfl) B.b_len (by decide +kernel) (pa_cons (pv 0) pa_nil)) pa_nil)) (pg_name (i := 3) sc_u_law_spots.nd rfl (by first | exact Or.inl rfl | exact Or.inr rfl)) (pss_one (ps_asg (pe_op (k_addA (K := K) rfl) (pv 2) (pe_dcall D_u_law_spots hr (by rfl) (pa_cons (pe_ix (k_ix (K := K) rfl) (pv 0) (pv 3) (fun _ _ => rfl)) (pa_cons (pe_op (k_addA (K := K) rfl) (pv 1) (pe_lst (pa_cons (pv 3) pa_nil))) pa_nil)))) (pg_name (i := 2) sc_u_law_spots.nd rfl (by first | exact Or.inl rfl | exact Or.inr rfl)))))) pss_nil)
      (pss_one (ps_ret (pv 2))))), fun C xs hn hp => ?_⟩
  obtain ⟨v, path, k, rfl, hv, hk, ht, hpl⟩ := hp
  change ST C _ [some (.d v), some (dL path), none, none] [] _
  repeat' walk_at "g0"
  refine st_seq ?_
  refine st_asg (tj_lstD ?_)
  repeat' walk_at "g1"
  · rename_i hc
    obtain ⟨ds, rfl⟩ := isTup_ex hc
    obtain ⟨k, rfl, hl, hd⟩ := hv.tin
    refine st_for (it_rng1 ?_)
    repeat' walk_at "g1"
    refine ⟨⟨by omega, by omega⟩, ?_⟩
    refine ⟨fun i S F => ∃ (ps : List (List Nat)) (u3 : Option SV), S = [some (.d (.tuple ds)), some (dL path), some (.d (.list (ps.map fun p => .list (pN p)))), u3] ∧ F = [] ∧ ps ≠ [] ∧ ps.length ≤ 1 + tcs (ds.take i) ∧ ∀ p ∈ ps, ∃ rel w, p = path ++ rel ∧ spotAt (.tuple ds) rel = some w, ⟨[path], _, rfl, rfl, by simp, by show 1 ≤ _; omega, fun p hp => ⟨[], _, by rw [List.append_nil]; exact List.mem_singleton.mp hp, spot_nil _⟩⟩, ?_, ?_⟩
    · rintro i y S F hi ⟨ps, u3, rfl, rfl, hne, hps, hsp⟩
      obtain ⟨hi2, rfl⟩ := rg_get hi
      rw [Int.toNat_natCast] at hi2
      obtain ⟨d, hdi⟩ : ∃ d, ds[i]? = some d := ⟨_, List.getElem?_eq_getElem hi2⟩
      have hdm := List.mem_of_getElem? hdi
      have htm := tcs_mem hdm
      have htc : tc (.tuple ds) = 3 + tcs ds := by rw [tc]
      have hsub := tcs_sub (List.take_sublist i ds)
      rw [show (0 : Int) + (i : Int) = ((i : Nat) : Int) by omega]
      repeat' walk_at "g1"
      refine ro_ixT (atI_n hdi) ?_
      repeat' walk_at "g2"
      refine ro_addL (.inl rfl) (.inl rfl) (by rw [List.length_map]; show _ + 1 ≤ _; omega) ?_
      rw [show pN path ++ [PyData.int (i : Nat)] = pN (path ++ [i]) by rw [pN, pN, List.map_append]; rfl]
      repeat' walk_at "g1"
      refine cl_ct rfl ⟨d, path ++ [i], k, rfl, hd d hdm, by omega, by omega, by rw [List.length_append]; show _ + 1 + _ ≤ _; omega⟩ ?_
      rintro y F' ⟨rfl, qs, rfl, hq⟩ _
      obtain ⟨hq1, hq2, hq3⟩ := hq d (path ++ [i]) rfl
      dsimp only [List.nil_append]
      refine ro_addL (.inl rfl) (.inl rfl) (by rw [List.length_map, List.length_map]; omega) ?_
      rw [← List.map_append]
      repeat' walk_at "g1"
      refine ⟨rfl, fun z => hne (List.append_eq_nil_iff.mp z).1, ?_, fun p hp => ?_⟩
      · have e1 : ds.take (i + 1) = ds.take i ++ [d] := by rw [List.take_add_one, hdi]; rfl
        rw [e1, tcs_app, tcs, tcs, List.length_append]
        omega
      · rcases List.mem_append.mp hp with hp | hp
        · exact hsp p hp
        · obtain ⟨rel, w, rfl, hw⟩ := hq3 p hp
          exact ⟨i :: rel, w, by rw [List.append_assoc]; rfl, spot_tup hdi hw⟩
    · rintro S F ⟨ps, u3, rfl, rfl, hne, hps, hsp⟩
      rw [rg_len, Int.toNat_natCast, List.take_length] at hps
      repeat' walk_at "g1"
      refine ends_of ⟨rfl, ps, rfl, fun v' path' e => ?_⟩
      obtain ⟨rfl, rfl⟩ : PyData.tuple ds = v' ∧ path = path' := by
        simp only [List.cons.injEq, SV.d.injEq, PyData.list.injEq, and_true] at e
        exact ⟨e.1, pN_inj e.2⟩
      exact ⟨hne, by rw [tc]; omega, hsp⟩
  · refine ends_of ⟨rfl, [path], rfl, fun v' path' e => ?_⟩
    obtain ⟨rfl, rfl⟩ : v = v' ∧ path = path' := by
      simp only [List.cons.injEq, SV.d.injEq, PyData.list.injEq, and_true] at e
      exact ⟨e.1, pN_inj e.2⟩
    exact ⟨by simp, tc_pos _, fun p hp => ⟨[], _, by rw [List.append_nil]; exact List.mem_singleton.mp hp, spot_nil _⟩⟩

theorem ok_u_law_spots {f : Addr} {fd : FuncData} (F : Fun K "_law_spots" "_law_spots" s_u_law_spots f fd) (B : Bt mg) (hm : mg "_law_spots" = some (.ref f)) (hb : Binds K fd ["value", "path"] []) : ∀ n : Nat,
    FnOk P w K mg base CX0 n f fd ["value", "path"] ((c_spots n).sp K T)
  | 0 => fn_none fun xs ⟨v, path, k, _, _, h, _⟩ => absurd h (Nat.not_lt_zero _)
  | n + 1 => step_u_law_spots F B ⟨f, fd, ok_u_law_spots F B hm hb n, hm, F.kp, hb⟩

abbrev s_u_law_pick : Stmt := topS 24
theorem sc_u_law_pick : FnScope ["pool", "items"] ["pool", "items"] (defScope s_u_law_pick) := ⟨rfl, rfl, rfl, by decide +kernel, rfl, by decide +kernel, by decide +kernel⟩
theorem ok_u_law_pick {f : Addr} {fd : FuncData} (F : Fun K "_law_pick" "_law_pick" s_u_law_pick f fd) (B : Bt mg)
    (D_u_law_draw : DefOk P w K mg base 2 "_law_draw" ["pool", "many"] ((c_draw).sp K T)) :
    FnOk P w K mg base CX0 3 f fd ["pool", "items"] ((c_pick).sp K T) := by
  refine ok_ctb (c_pick) F sc_u_law_pick rfl fun cdv A outer s H E hr => ⟨_, (pss_one (ps_ret (pe_ix (k_ix (K := K) rfl) (pv 1) (pe_dcall D_u_law_draw hr (by rfl) (pa_cons (pv 0) (pa_cons (pe_callB (k_len (K := K) rfl) (by rfl) B.b_len (by decide +kernel) (pa_cons (pv 1) pa_nil)) pa_nil))) (fun _ _ => rfl)))), fun C p mo xs hn hp => ?_⟩
  obtain ⟨hpool, ds, hx, hne, hl⟩ := hp
  have h0 : 0 < ds.length := List.length_pos_iff.mpr hne
  obtain ⟨x, ex, hx2⟩ : ∃ x, xs = [x] ∧ (x = .d (.list ds) ∨ x = .d (.tuple ds)) := by
    rcases hx with hx | hx
    · exact ⟨_, hx, .inl rfl⟩
    · exact ⟨_, hx, .inr rfl⟩
  clear hx
  subst ex
  change ST C _ [some (.m p), some x] [(p, _)] _
  have key : ∀ (mo' : MO) (d : PyData), isPool mo' → d ∈ ds → (c_pick.ends p mo [x]).rt (.d d) [(p, mo')] := fun mo' d h1 h2 => ⟨_, List.Sublist.refl _, h1, d, rfl, fun ds' e => by
    rcases hx2 with hx | hx <;> rw [hx] at e <;> rcases e with e | e
    · simp only [List.cons.injEq, SV.d.injEq, PyData.list.injEq, and_true] at e
      exact e ▸ h2
    · simp at e
    · simp at e
    · simp only [List.cons.injEq, SV.d.injEq, PyData.tuple.injEq, and_true] at e
      exact e ▸ h2⟩
  rcases hx2 with rfl | rfl
  · repeat' walk_at "g1"
    refine cl_draw1 hpool (by omega) fun v mo hv0 hv1 hpool => ?_
    have h : ds[v.toNat]? = some (ds[v.toNat]'(by omega)) := List.getElem?_eq_getElem _
    refine ro_ixL (atI_nat' hv0 h) ?_
    exact key _ _ hpool (List.mem_of_getElem? h)
  · repeat' walk_at "g1"
    refine cl_draw1 hpool (by omega) fun v mo hv0 hv1 hpool => ?_
    have h : ds[v.toNat]? = some (ds[v.toNat]'(by omega)) := List.getElem?_eq_getElem _
    refine ro_ixT (atI_nat' hv0 h) ?_
    exact key _ _ hpool (List.mem_of_getElem? h)

abbrev s_u_law_odd_values : Stmt := topS 26
theorem sc_u_law_odd_values : FnScope [] [] (defScope s_u_law_odd_values) := ⟨rfl, rfl, rfl, by decide +kernel, rfl, by decide +kernel, by decide +kernel⟩
theorem ok_u_law_odd_values {f : Addr} {fd : FuncData} (F : Fun K "_law_odd_values" "_law_odd_values" s_u_law_odd_values f fd) (B : Bt mg) :
    FnOk P w K mg base CX0 1 f fd [] ((c_odd).sp K T) := by
  refine ok_ct (c_odd) F sc_u_law_odd_values rfl fun cdv A outer s H E hr => ⟨_, (pss_one (ps_ret (pe_lst (pa_cons pe_non (pa_cons pe_bl (pa_cons pe_bl (pa_cons pe_int (pa_cons pe_int (pa_cons (pe_un un_neg pe_int) (pa_cons pe_str (pa_cons pe_str (pa_cons (pe_tup pa_nil) (pa_cons (pe_lst pa_nil) (pa_cons pe_dnewK (pa_cons (pe_tup (pa_cons pe_int pa_nil)) (pa_cons (pe_tup (pa_cons pe_bl pa_nil)) (pa_cons (pe_tup (pa_cons (pe_tup pa_nil) pa_nil)) (pa_cons (pe_lst (pa_cons pe_int (pa_cons pe_int pa_nil))) (pa_cons (pe_tup (pa_cons pe_int (pa_cons pe_int pa_nil))) (pa_cons (pe_tup (pa_cons pe_int (pa_cons pe_int (pa_cons pe_int pa_nil)))) (pa_cons (pe_tup (pa_cons pe_str pa_nil)) (pa_cons (pe_tup (pa_cons pe_str (pa_cons (pe_tup pa_nil) pa_nil))) (pa_cons (pe_tup (pa_cons pe_str (pa_cons (pe_tup pa_nil) pa_nil))) (pa_cons (pe_tup (pa_cons pe_str (pa_cons (pe_tup (pa_cons pe_int (pa_cons pe_int pa_nil))) (pa_cons pe_int pa_nil)))) pa_nil)))))))))))))))))))))))), fun C xs hn hp => ?_⟩
  have hp : xs = [] := hp
  subst hp
  change ST C _ [] [] _
  repeat' walk_at "g2"
  refine ends_of ⟨rfl, _, rfl, by decide, fun d hd => ?_⟩
  simp only [List.mem_cons, List.not_mem_nil, or_false] at hd
  rcases hd with rfl | rfl | rfl | rfl | rfl | rfl | rfl | rfl | rfl | rfl | rfl | rfl | rfl | rfl | rfl | rfl | rfl | rfl | rfl | rfl | rfl
  all_goals first
    | exact .inr rfl
    | refine .inl ⟨?_, by decide +kernel, by decide +kernel⟩
  all_goals
    repeat (first | exact .non | exact .bl | exact .int | exact .str (by decide +kernel) | exact okNil | refine .tup (by decide) ?_ | refine .lst (by decide) ?_ | refine okCons ?_ ?_)

abbrev s_u_law_spot_put : Stmt := topS 28
theorem sc_u_law_spot_put : FnScope ["value", "path", "item"] ["value", "path", "item"] (defScope s_u_law_spot_put) := ⟨rfl, rfl, rfl, by decide +kernel, rfl, by decide +kernel, by decide +kernel⟩
theorem step_u_law_spot_put {f : Addr} {fd : FuncData} (F : Fun K "_law_spot_put" "_law_spot_put" s_u_law_spot_put f fd) (B : Bt mg) {n : Nat} (D_u_law_spot_put : DefOk P w K mg base n "_law_spot_put" ["value", "path", "item"] ((c_sput n).sp K T)) :
    FnOk P w K mg base CX0 (n + 1) f fd ["value", "path", "item"] ((c_sput (n + 1)).sp K T) := by
  refine ok_ct (c_sput (n + 1)) F sc_u_law_spot_put rfl fun cdv A outer s H E hr => ⟨_, (pss_cons (ps_if (pt_cmpR (k_eqD (K := K) rfl hr.units) (pe_callB (k_len (K := K) rfl) (by rfl) B.b_len (by decide +kernel) (pa_cons (pv 1) pa_nil)) pe_int (nomark _)) (pss_one (ps_ret (pv 2))) pss_nil)
      (pss_one (ps_ret (pe_op (k_addA (K := K) rfl) (pe_op (k_addA (K := K) rfl) (pe_slice (k_sl (K := K) rfl) (pv 0) po_none (po_some (pe_ix (k_ix (K := K) rfl) (pv 1) pe_int (fun _ _ => rfl)))) (pe_tup (pa_cons (pe_dcall D_u_law_spot_put hr (by rfl) (pa_cons (pe_ix (k_ix (K := K) rfl) (pv 0) (pe_ix (k_ix (K := K) rfl) (pv 1) pe_int (fun _ _ => rfl)) (fun _ _ => rfl)) (pa_cons (pe_slice (k_sl (K := K) rfl) (pv 1) (po_some pe_int) po_none) (pa_cons (pv 2) pa_nil)))) pa_nil))) (pe_slice (k_sl (K := K) rfl) (pv 0) (po_some (pe_op (k_addA (K := K) rfl) (pe_ix (k_ix (K := K) rfl) (pv 1) pe_int (fun _ _ => rfl)) pe_int)) po_none))))), fun C xs hn hp => ?_⟩
  obtain ⟨v, w, item, path, k, rfl, hw, hlt, hv, hk⟩ := hp
  change ST C _ [some (.d v), some (dL path), some (.d item)] [] _
  have key : ∀ {v' path' item'}, [SV.d v, dL path, .d item] = [.d v', dL path', .d item'] → v = v' ∧ path = path' ∧ item = item' := fun e => by
    simp only [List.cons.injEq, SV.d.injEq, PyData.list.injEq, and_true] at e
    exact ⟨e.1, pN_inj e.2.1, e.2.2⟩
  cases path with
  | nil =>
    repeat' walk_at "g1"
    · refine ends_of ⟨rfl, _, rfl, fun v' path' item' e => ?_⟩
      obtain ⟨rfl, rfl, rfl⟩ := key e
      exact (put_nil _ _).symm
    · rename_i hc
      exact absurd rfl hc
  | cons a r =>
    obtain ⟨ds, d, rfl, e1, e2⟩ := spot_cons hw
    obtain ⟨k, rfl, hl, hd⟩ := hv.tin
    have hal := (List.getElem?_eq_some_iff.mp e1).1
    repeat' walk_at "g1"
    · rename_i hc
      have hc : ((r.map fun (n : Nat) => PyData.int n).length + 1 : Int) = 0 := hc
      omega
    refine tj_slT ?_
    repeat' walk_at "g2"
    refine ro_ixL (atI_n (j := 0) (x := .int (a : Nat)) rfl) ?_
    repeat' walk_at "g1"
    rw [cut_to]
    refine ro_ixL (atI_n (j := 0) (x := .int (a : Nat)) rfl) ?_
    refine ro_ixT (atI_n e1) ?_
    repeat' walk_at "g1"
    refine tj_slL ?_
    repeat' walk_at "g2"
    rw [show cutD (pN (a :: r)) (some 1) none = pN r from (cut_from (ds := pN (a :: r)) 1).trans rfl]
    refine cl_ct rfl ⟨d, w, item, r, k, rfl, e2, by rw [List.length_cons] at hlt; omega, hd d (List.mem_of_getElem? e1), by omega⟩ ?_
    rintro y F' ⟨rfl, X, rfl, hX⟩ _
    cases hX _ _ _ rfl
    dsimp only [List.nil_append]
    repeat' walk_at "g1"
    refine ro_addT (by rw [List.length_take]; show _ + 1 ≤ _; omega) ?_
    refine tj_slT ?_
    repeat' walk_at "g2"
    refine ro_ixL (atI_n (j := 0) (x := .int (a : Nat)) rfl) ?_
    repeat' walk_at "g2"
    rw [show ((a : Nat) : Int) + 1 = ((a + 1 : Nat) : Int) by omega, cut_from]
    refine ro_addT (by rw [List.length_append, List.length_take, List.length_drop]; show _ + 1 + _ ≤ _; omega) ?_
    refine ends_of ⟨rfl, _, rfl, fun v' path' item' e => ?_⟩
    obtain ⟨rfl, rfl, rfl⟩ := key e
    rw [G.putAt, List.getD_eq_getElem?_getD, e1, List.append_assoc]
    rfl

theorem ok_u_law_spot_put {f : Addr} {fd : FuncData} (F : Fun K "_law_spot_put" "_law_spot_put" s_u_law_spot_put f fd) (B : Bt mg) (hm : mg "_law_spot_put" = some (.ref f)) (hb : Binds K fd ["value", "path", "item"] []) : ∀ n : Nat,
    FnOk P w K mg base CX0 n f fd ["value", "path", "item"] ((c_sput n).sp K T)
  | 0 => fn_none fun xs ⟨v, w, item, path, k, _, _, h, _⟩ => absurd h (Nat.not_lt_zero _)
  | n + 1 => step_u_law_spot_put F B ⟨f, fd, ok_u_law_spot_put F B hm hb n, hm, F.kp, hb⟩

abbrev s_u_law_bent_spot : Stmt := topS 30
theorem sc_u_law_bent_spot : FnScope ["pool", "value", "items"] ["pool", "value"] (defScope s_u_law_bent_spot) := ⟨rfl, rfl, rfl, by decide +kernel, rfl, by decide +kernel, by decide +kernel⟩
theorem ok_u_law_bent_spot {f : Addr} {fd : FuncData} (F : Fun K "_law_bent_spot" "_law_bent_spot" s_u_law_bent_spot f fd) (B : Bt mg)
    (D_u_law_pick : DefOk P w K mg base 3 "_law_pick" ["pool", "items"] ((c_pick).sp K T)) :
    FnOk P w K mg base CX0 4 f fd ["pool", "value"] ((c_bspot).sp K T) := by
  refine ok_ctb (c_bspot) F sc_u_law_bent_spot rfl fun cdv A outer s H E hr => ⟨_, (pss_cons (ps_if (pt_val (pe_callB (k_isi (K := K) rfl) (by rfl) B.b_isinstance (by decide +kernel) (pa_cons (pv 1) (pa_cons (pe_bltn (v := .ty "tuple") (by rfl) B.b_tuple (by decide +kernel) rfl) pa_nil)))) (pss_cons (ps_asg (pe_lst (pa_cons (pe_slice (k_sl (K := K) rfl) (pv 1) (po_some pe_int) po_none) (pa_cons (pe_op (k_addA (K := K) rfl) (pv 1) (pe_slice (k_sl (K := K) rfl) (pv 1) (po_some (pe_un un_neg pe_int)) po_none)) (pa_cons (k_back (K := K) rfl (pv 1)) (pa_cons (pe_callTy (k_list (K := K) rfl) (by rfl) B.b_list (by decide +kernel) (pa_cons (pv 1) pa_nil)) (pa_cons pe_non (pa_cons (pe_tup pa_nil) (pa_cons (pe_op (k_addA (K := K) rfl) (pv 1) (pe_tup (pa_cons pe_int pa_nil))) pa_nil)))))))) (pg_name (i := 2) sc_u_law_bent_spot.nd rfl (by first | exact Or.inl rfl | exact Or.inr rfl)))
      (pss_one (ps_ret (pe_dcall D_u_law_pick hr (by rfl) (pa_cons (pv 0) (pa_cons (pv 2) pa_nil)))))) pss_nil)
      (pss_cons (ps_if (pt_val (pe_callB (k_isi (K := K) rfl) (by rfl) B.b_isinstance (by decide +kernel) (pa_cons (pv 1) (pa_cons (pe_bltn (v := .ty "str") (by rfl) B.b_str (by decide +kernel) rfl) pa_nil)))) (pss_one (ps_ret (pe_dcall D_u_law_pick hr (by rfl) (pa_cons (pv 0) (pa_cons (pe_lst (pa_cons pe_str (pa_cons pe_str (pa_cons pe_str (pa_cons pe_str (pa_cons pe_str (pa_cons pe_str (pa_cons pe_str (pa_cons pe_str (pa_cons pe_non pa_nil)))))))))) pa_nil))))) pss_nil)
      (pss_cons (ps_if (pt_cmpR op_isN (pv 1) pe_non (nomark _)) (pss_one (ps_ret (pe_dcall D_u_law_pick hr (by rfl) (pa_cons (pv 0) (pa_cons (pe_lst (pa_cons (pe_tup pa_nil) (pa_cons pe_int (pa_cons pe_bl (pa_cons (pe_tup (pa_cons pe_str (pa_cons (pe_tup pa_nil) (pa_cons pe_non pa_nil)))) (pa_cons (pe_tup (pa_cons (pe_tup pa_nil) (pa_cons (pe_tup pa_nil) pa_nil))) pa_nil)))))) pa_nil))))) pss_nil)
      (pss_one (ps_ret (pe_dcall D_u_law_pick hr (by rfl) (pa_cons (pv 0) (pa_cons (pe_lst (pa_cons (pe_op (k_addA (K := K) rfl) (pv 1) pe_int) (pa_cons (pe_op op_sub (pv 1) pe_int) (pa_cons (pe_op (k_addA (K := K) rfl) (pv 1) pe_int) (pa_cons (pe_cmpR (k_eqD (K := K) rfl hr.units) (pv 1) pe_int (nomark _)) (pa_cons pe_non (pa_cons (pe_callTy k_strI (by rfl) B.b_str (by decide +kernel) (pa_cons (pv 1) pa_nil)) (pa_cons pe_int pa_nil)))))))) pa_nil)))))))), fun C p mo xs hn hp => ?_⟩
  obtain ⟨hpool, v, n, rfl, hv, hn, ht⟩ := hp
  change ST C _ [some (.m p), some (.d v), none] [(p, _)] _
  have key : ∀ (d : PyData) (mo' : MO), isPool mo' → (∀ m, Pl m v → Nice (m + 2) (2 * tc v + 20000) d) → (c_bspot.ends p mo [.d v]).rt (.d d) [(p, mo')] := fun d mo' h1 h2 => ⟨_, List.Sublist.refl _, h1, d, rfl, fun v' e => by
    have : v = v' := by simpa using e
    subst this
    exact h2⟩
  repeat' walk_at "g1"
  · rename_i hc
    obtain ⟨ds, rfl⟩ := isTup_ex hc
    have hl : ds.length ≤ 100000 := by obtain ⟨m, rfl, hl, hd⟩ := hv.tin; exact hl
    refine tj_lstD ?_
    repeat' walk_at "g2"
    refine tj_slT ?_
    repeat' walk_at "g2"
    refine tj_slT ?_
    repeat' walk_at "g2"
    refine ro_addT (by have := cut_len (ds := ds) (lo := some (-1)) (hi := none); omega) ?_
    repeat' walk_at "g2"
    refine tj_back ?_
    repeat' walk_at "g2"
    refine .inl ⟨ds, rfl, ?_⟩
    repeat' walk_at "g2"
    refine rc_listD (.inr rfl) ?_
    repeat' walk_at "g2"
    refine ro_addT (by show _ + 1 ≤ _; omega) ?_
    repeat' walk_at "g2"
    refine cl_pick1 hpool (.inl rfl) ⟨by simp, by simp⟩ fun d mo hd hpool => ?_
    refine key _ _ hpool fun m hm => ?_
    obtain ⟨m, rfl, _, hds⟩ := hm.tin
    have etc : tc (.tuple ds) = 3 + tcs ds := by rw [tc]
    simp only [List.mem_cons, List.not_mem_nil, or_false] at hd
    rcases hd with rfl | rfl | rfl | rfl | rfl | rfl | rfl
    · exact (nice_memT (by have := cut_len (ds := ds) (lo := some 1) (hi := none); omega) hds (fun d hd => .inl (cut_sub.subset hd)) (Nat.le_refl _)).mono (by omega) (by have := tcs_cut ds (some 1) none; omega)
    · exact (nice_memT (by have := cut_len (ds := ds) (lo := some (-1)) (hi := none); rw [List.length_append]; omega) hds (fun d hd => .inl (by rcases List.mem_append.mp hd with h | h; exact h; exact cut_sub.subset h)) (Nat.le_refl _)).mono (by omega) (by have := tcs_cut ds (some (-1)) none; rw [tcs_app]; omega)
    · exact (nice_memT (by rw [List.length_reverse]; omega) hds (fun d hd => .inl (List.mem_reverse.mp hd)) (Nat.le_refl _)).mono (by omega) (by rw [tcs_rev]; omega)
    · exact (nice_memL (by omega) hds (fun d hd => .inl hd) (Nat.le_refl _)).mono (by omega) (by omega)
    · exact ⟨.non, by decide, by show 4 ≤ _; omega⟩
    · exact ⟨.tup (by decide) okNil, by decide, by show 3 ≤ _; omega⟩
    · exact (nice_memT (by rw [List.length_append]; show _ + 1 < _; omega) hds (fun d hd => by rcases List.mem_append.mp hd with h | h; exact .inl h; exact .inr (List.mem_singleton.mp h)) (Nat.le_refl _)).mono (by omega) (by rw [tcs_app, show tcs [.int 0] = 4 by decide +kernel]; omega)
  · refine tj_lstD ?_
    repeat' walk_at "g2"
    refine cl_pick1 hpool (.inl rfl) ⟨by simp, by simp⟩ fun d mo hd hpool => ?_
    refine key _ _ hpool fun m hm => ?_
    simp only [List.mem_cons, List.not_mem_nil, or_false] at hd
    rcases hd with rfl | rfl | rfl | rfl | rfl | rfl | rfl | rfl | rfl
    all_goals
      refine ⟨?_, by decide +kernel, Nat.le_trans (show tc _ ≤ 1000 by decide +kernel) (by omega)⟩
    all_goals
      repeat (first | exact .non | exact .bl | exact .int | exact .str (by decide +kernel) | exact okNil | refine .tup (by decide) ?_ | refine .lst (by decide) ?_ | refine okCons ?_ ?_)

  · refine tj_lstD ?_
    repeat' walk_at "g2"
    refine cl_pick1 hpool (.inl rfl) ⟨by simp, by simp⟩ fun d mo hd hpool => ?_
    refine key _ _ hpool fun m hm => ?_
    simp only [List.mem_cons, List.not_mem_nil, or_false] at hd
    rcases hd with rfl | rfl | rfl | rfl | rfl
    all_goals
      refine ⟨?_, by decide +kernel, Nat.le_trans (show tc _ ≤ 1000 by decide +kernel) (by omega)⟩
    all_goals
      repeat (first | exact .non | exact .bl | exact .int | exact .str (by decide +kernel) | exact okNil | refine .tup (by decide) ?_ | refine .lst (by decide) ?_ | refine okCons ?_ ?_)

  · rename_i h1 h2 h3
    cases hv with
    | non => exact absurd h3 (by simp)
    | str _ => exact absurd h2 (by simp [isStr])
    | tup _ _ => exact absurd h1 (by simp [isTup])
    | int hi =>
    rename_i i
    have e9 : (2 : Nat) ^ 900 ≤ 2 ^ 901 - 10 := by decide +kernel
    have hlog : ∀ j : Int, j.natAbs ≤ i.natAbs + 10 → j.natAbs.log2 < 1000 := fun j hj => by
      have := log2_lt (k := 901) (i := j.natAbs) (by omega) (by decide)
      omega
    refine tj_lstD ?_
    repeat' walk_at "g2"
    refine rc_strI (by have := hlog i (by omega); omega) ?_
    repeat' walk_at "g2"
    refine cl_pick1 hpool (.inl rfl) ⟨by simp, by simp⟩ fun d mo hd hpool => ?_
    refine key _ _ hpool fun m hm => ?_
    simp only [List.mem_cons, List.not_mem_nil, or_false] at hd
    rcases hd with rfl | rfl | rfl | rfl | rfl | rfl | rfl
    · exact nice_int (hlog _ (by omega)) (by omega)
    · exact nice_int (hlog _ (by omega)) (by omega)
    · exact nice_int (hlog _ (by omega)) (by omega)
    · exact ⟨.bl, by simp [PyData.showable], by show 5 ≤ _; omega⟩
    · exact ⟨.non, by decide, by show 4 ≤ _; omega⟩
    · exact nice_txt (hlog _ (by omega)) (by omega)
    · exact nice_int (hlog _ (by omega)) (by omega)

abbrev s_u_law_spot : Stmt := topS 29
theorem sc_u_law_spot : FnScope ["value", "path", "step"] ["value", "path"] (defScope s_u_law_spot) := ⟨rfl, rfl, rfl, by decide +kernel, rfl, by decide +kernel, by decide +kernel⟩
theorem ok_u_law_spot {f : Addr} {fd : FuncData} (F : Fun K "_law_spot" "_law_spot" s_u_law_spot f fd) (B : Bt mg) :
    FnOk P w K mg base CX0 1 f fd ["value", "path"] ((c_spot).sp K T) := by
  refine ok_ct (c_spot) F sc_u_law_spot rfl fun cdv A outer s H E hr => ⟨_, (pss_cons (ps_for PassesOwn.never rfl (k_seq (K := K) rfl (pv 1)) (pg_name (i := 2) sc_u_law_spot.nd rfl (by first | exact Or.inl rfl | exact Or.inr rfl)) (pss_one (ps_asg (pe_ix (k_ix (K := K) rfl) (pv 0) (pv 2) (fun _ _ => rfl)) (pg_name (i := 0) sc_u_law_spot.nd rfl (by first | exact Or.inl rfl | exact Or.inr rfl)))))
      (pss_one (ps_ret (pv 0)))), fun C xs hn hp => ?_⟩
  obtain ⟨v, w, path, rfl, hw, hl⟩ := hp
  change ST C _ [some (.d v), some (dL path), none] [] _
  repeat' walk_at "g1"
  refine st_for (it_seqX ?_)
  repeat' walk_at "g1"
  refine ⟨pN path, .inr rfl, ?_⟩
  refine ⟨fun i S F => ∃ (x : PyData) (u2 : Option SV), S = [some (.d x), some (dL path), u2] ∧ F = [] ∧ spotAt x (path.drop i) = some w, ⟨v, _, rfl, rfl, hw⟩, ?_, ?_⟩
  · rintro i y S F hi ⟨x, u2, rfl, rfl, hx⟩
    rw [pN_d, List.getElem?_map] at hi
    obtain ⟨a, ha, rfl⟩ := Option.map_eq_some_iff.mp hi
    rw [drop_get ha] at hx
    obtain ⟨ds, d, rfl, e1, e2⟩ := spot_cons hx
    repeat' walk_at "g1"
    refine ro_ixT (atI_n e1) ?_
    repeat' walk_at "g1"
    exact ⟨rfl, e2⟩
  · rintro S F ⟨x, u2, rfl, rfl, hx⟩
    rw [List.length_map, pN, List.length_map, List.drop_length, spot_nil] at hx
    cases hx
    repeat' walk_at "g1"
    refine ends_of ⟨rfl, _, rfl, fun v' path' e => ?_⟩
    simp only [List.cons.injEq, SV.d.injEq, PyData.list.injEq, and_true] at e
    obtain ⟨rfl, e2⟩ := e
    cases pN_inj e2
    exact hw

abbrev s_u_law_bent : Stmt := topS 41
theorem sc_u_law_bent : FnScope ["pool", "paper", "many", "found", "spots", "k", "path"] ["pool", "paper", "many"] (defScope s_u_law_bent) := ⟨rfl, rfl, rfl, by decide +kernel, rfl, by decide +kernel, by decide +kernel⟩
theorem ok_u_law_bent {f : Addr} {fd : FuncData} (F : Fun K "_law_bent" "_law_bent" s_u_law_bent f fd) (B : Bt mg)
    (D_u_law_spots : DefOk P w K mg base 4 "_law_spots" ["value", "path"] ((c_spots 4).sp K T))
    (D_u_law_pick : DefOk P w K mg base 3 "_law_pick" ["pool", "items"] ((c_pick).sp K T))
    (D_u_law_odd_values : DefOk P w K mg base 1 "_law_odd_values" [] ((c_odd).sp K T))
    (D_u_law_spot_put : DefOk P w K mg base 4 "_law_spot_put" ["value", "path", "item"] ((c_sput 4).sp K T))
    (D_u_law_bent_spot : DefOk P w K mg base 4 "_law_bent_spot" ["pool", "value"] ((c_bspot).sp K T))
    (D_u_law_spot : DefOk P w K mg base 1 "_law_spot" ["value", "path"] ((c_spot).sp K T)) :
    FnOk P w K mg base CX0 5 f fd ["pool", "paper", "many"] ((c_bent 3).sp K T) := by
  refine ok_ctb (c_bent 3) F sc_u_law_bent rfl fun cdv A outer s H E hr => ⟨_, (pss_cons (ps_asg (pe_lst (pa_cons (pv 1) (pa_cons (pe_callTy (k_list (K := K) rfl) (by rfl) B.b_list (by decide +kernel) (pa_cons (pv 1) pa_nil)) (pa_cons (pe_op (k_addA (K := K) rfl) (pv 1) (pe_tup (pa_cons pe_int pa_nil))) (pa_cons (pe_tup (pa_cons (pe_ix (k_ix (K := K) rfl) (pv 1) pe_int (fun _ _ => rfl)) pa_nil)) (pa_cons (k_back (K := K) rfl (pv 1)) pa_nil)))))) (pg_name (i := 3) sc_u_law_bent.nd rfl (by first | exact Or.inl rfl | exact Or.inr rfl)))
      (pss_cons (ps_asg (pe_dcall D_u_law_spots hr (by rfl) (pa_cons (pv 1) (pa_cons (pe_lst pa_nil) pa_nil))) (pg_name (i := 4) sc_u_law_bent.nd rfl (by first | exact Or.inl rfl | exact Or.inr rfl)))
      (pss_cons (ps_for PassesOwn.never rfl (pi_range1 (by rfl) B.b_range (pa_cons (pv 2) pa_nil)) (pg_name (i := 5) sc_u_law_bent.nd rfl (by first | exact Or.inl rfl | exact Or.inr rfl)) (pss_cons (ps_asg (pe_dcall D_u_law_pick (hr.mono (by decide)) (by rfl) (pa_cons (pv 0) (pa_cons (pv 4) pa_nil))) (pg_name (i := 6) sc_u_law_bent.nd rfl (by first | exact Or.inl rfl | exact Or.inr rfl)))
      (pss_one (ps_expr (k_bm (K := K) rfl (pe_bm PySem.F.plainAttrs_list PySem.F.slot_list_append PySem.F.type_list_append mt_append (pv 3) (pa_cons (pe_dcall D_u_law_spot_put hr (by rfl) (pa_cons (pv 1) (pa_cons (pv 6) (pa_cons (pe_dcall D_u_law_bent_spot hr (by rfl) (pa_cons (pv 0) (pa_cons (pe_dcall D_u_law_spot (hr.mono (by decide)) (by rfl) (pa_cons (pv 1) (pa_cons (pv 6) pa_nil))) pa_nil))) pa_nil)))) pa_nil)))))))
      (pss_one (ps_ret (pe_op (k_addA (K := K) rfl) (pv 3) (pe_dcall0 D_u_law_odd_values (hr.mono (by decide)) (by rfl)))))))), fun C p mo xs hn hp => ?_⟩
  obtain ⟨hpool, d0, ds, many, rfl, hv, ht, hm⟩ := hp
  change ST C _ [some (.m p), some (.d (.tuple (d0 :: ds))), some (dI (many : Nat)), none, none, none, none] [(p, _)] _
  obtain ⟨k, ek, hl, hds⟩ := hv.tin
  have hk : k + 1 ≤ 40 := by omega
  have etc : tc (.tuple (d0 :: ds)) = 3 + tcs (d0 :: ds) := by rw [tc]
  repeat' walk_at "g0"
  refine st_seq ?_
  refine st_asg (tj_lst ?_)
  repeat' walk_at "g2"
  refine rc_listD (.inr rfl) ?_
  repeat' walk_at "g2"
  refine ro_addT (by show _ + 1 ≤ _; omega) ?_
  repeat' walk_at "g2"
  refine ro_ixT (atI_n (j := 0) (x := d0) rfl) ?_
  repeat' walk_at "g2"
  refine tj_back ?_
  repeat' walk_at "g2"
  refine .inl ⟨_, rfl, ?_⟩
  repeat' walk_at "g2"
  refine ⟨by simp, fun pf hpf => ?_⟩
  have hppf : p ≠ pf := fun e => hpf (by rw [e]; exact List.mem_cons_self)
  repeat' walk_at "g2"
  refine cl_ct rfl ⟨_, [], _, rfl, hv, by omega, by omega, by show 0 + _ ≤ _; omega⟩ ?_
  rintro y F' ⟨rfl, ps, rfl, hps⟩ _
  obtain ⟨hp1, hp2, hp3⟩ := hps _ [] rfl
  dsimp only [List.nil_append]
  repeat' walk_at "g1"
  refine st_for (it_rng1 ?_)
  repeat' walk_at "g1"
  refine ⟨⟨by omega, by omega⟩, ?_⟩
  refine ⟨fun i S F => ∃ (es : List PyData) (mo : MO) (u5 u6 : Option SV), S = [some (.m p), some (.d (.tuple (d0 :: ds))), some (dI (many : Nat)), some (.m pf), some (.d (.list (ps.map fun p => .list (pN p)))), u5, u6] ∧ F = [(pf, .lst (es.map .d)), (p, mo)] ∧ isPool mo ∧ es.length ≤ 5 + i ∧ ∀ d ∈ es, Odd 50 1000000 d, ⟨[_, _, _, _, _], _, _, _, rfl, rfl, hpool, by show 5 ≤ _; omega, fun d hd => .inl ?_⟩, ?_, ?_⟩
  · have hds0 := hds d0 List.mem_cons_self
    have htd := tcs_mem (d := d0) (ds := d0 :: ds) List.mem_cons_self
    simp only [List.mem_cons, List.not_mem_nil, or_false] at hd
    rcases hd with rfl | rfl | rfl | rfl | rfl
    · exact hv.nice.mono (by omega) (by omega)
    · exact (nice_memL (by omega) hds (fun d hd => .inl hd) (Nat.le_refl _)).mono (by omega) (by omega)
    · exact (nice_memT (by rw [List.length_append]; show _ + 1 < _; omega) hds (fun d hd => by rcases List.mem_append.mp hd with h | h; exact .inl h; exact .inr (List.mem_singleton.mp h)) (Nat.le_refl _)).mono (by omega) (by rw [tcs_app, show tcs [.int 0] = 4 by decide +kernel]; omega)
    · exact (nice_memT (by simp) hds (fun d hd => .inl (by rw [List.mem_singleton.mp hd]; exact List.mem_cons_self)) (Nat.le_refl _)).mono (by omega) (by rw [tcs, tcs]; omega)
    · exact (nice_memT (by rw [List.length_reverse]; omega) hds (fun d hd => .inl (List.mem_reverse.mp hd)) (Nat.le_refl _)).mono (by omega) (by rw [tcs_rev]; omega)
  · rintro i y S F hi ⟨es, mo, u5, u6, rfl, rfl, hpool, hes, hodd⟩
    obtain ⟨hi2, rfl⟩ := rg_get hi
    repeat' walk_at "g1"
    refine cl_ctb2 (c := c_pick) hppf rfl ⟨hpool, _, .inl rfl, by simpa using hp1, by rw [List.length_map]; omega⟩ ?_
    rintro y mo ⟨hpool, pd, rfl, hpd⟩
    obtain ⟨path, hpath, rfl⟩ := List.mem_map.mp (hpd _ (.inl rfl))
    obtain ⟨rel, w, erel, hw⟩ := hp3 path hpath
    rw [List.nil_append] at erel
    subst erel
    obtain ⟨hw1, hw2, hw3⟩ := spot_pl hv hw
    repeat' walk_at "g1"
    refine cl_ct rfl ⟨_, w, path, rfl, hw, by omega⟩ ?_
    rintro y F' ⟨rfl, w', rfl, hw'⟩ _
    cases (hw' _ _ rfl).symm.trans hw
    dsimp only [List.nil_append]
    repeat' walk_at "g1"
    refine cl_ctb2 (c := c_bspot) hppf rfl ⟨hpool, w, _, rfl, hw1, by omega, by omega⟩ ?_
    rintro y mo ⟨hpool, it, rfl, hit⟩
    have hit := hit w rfl _ hw1
    repeat' walk_at "g1"
    refine cl_ct rfl ⟨_, w, it, path, _, rfl, hw, by omega, hv, by omega⟩ ?_
    rintro y F' ⟨rfl, X, rfl, hX⟩ _
    cases hX _ _ _ rfl
    have hnice := put_nice hv hit hw
    dsimp only [List.nil_append]
    repeat' walk_at "g1"
    refine app_go2 (xs := es.map .d) (List.Mem.head _) (by rw [List.length_map]; omega) ?_
    rw [setF_head (by simpa using Ne.symm hppf)]
    refine ⟨es ++ [_], mo, _, _, rfl, by rw [List.map_append]; rfl, hpool, by rw [List.length_append]; show _ + 1 ≤ _; omega, fun d hd => ?_⟩
    rcases List.mem_append.mp hd with hd | hd
    · exact hodd d hd
    · cases List.mem_singleton.mp hd
      exact .inl (hnice.mono (by omega) (by omega))
  · rintro S F ⟨es, mo, u5, u6, rfl, rfl, hpool, hes, hodd⟩
    rw [rg_len, Int.toNat_natCast] at hes
    repeat' walk_at "g1"
    refine cl_ct rfl rfl ?_
    rintro y F' ⟨rfl, os, rfl, hol, hos⟩ _
    dsimp only [List.nil_append]
    refine ro_addL (.inr ⟨_, rfl, List.Mem.head _⟩) (.inl rfl) (by omega) ?_
    refine ⟨_, List.Sublist.cons _ (List.Sublist.refl _), hpool, _, rfl, by rw [List.length_append]; omega, fun d hd => ?_⟩
    rcases List.mem_append.mp hd with hd | hd
    · exact hodd d hd
    · rcases hos d hd with h | h
      · exact .inl (h.mono (by omega) (by omega))
      · exact .inr h

abbrev s_Sums_has : Stmt := inClass (topS 4) 1
theorem sc_Sums_has : FnScope ["self", "n"] ["self", "n"] (defScope s_Sums_has) := ⟨rfl, rfl, rfl, by decide +kernel, rfl, by decide +kernel, by decide +kernel⟩
theorem okO_Sums_has {f : Addr} {fd : FuncData} (F : Fun K "has" "Sums.has" s_Sums_has f fd) (B : Bt mg)
    (Z_Sums : ZSums K cSums) :
    FnOk P w K mg base CX0 1 f fd ["self", "n"] ((c_has cSums).sp K T) := by
  refine ok_ct (c_has cSums) F sc_Sums_has rfl fun cdv A outer s H E hr => ⟨_, (pss_one (ps_ret (pe_cmpR op_ge (pv 1) (pe_ix (k_ix (K := K) rfl) (k_fld (K := K) rfl (pv 0) rfl) (pe_op op_mod (pv 1) (k_fld (K := K) rfl (pv 0) rfl)) (fun _ _ => rfl)) (nomark _)))), fun C xs hn hp => ?_⟩
  have z_Sums := Z_Sums.cl
  have z_Sums_base := Z_Sums.n_base
  have z_Sums_by := Z_Sums.n_by
  have z_Sums_row := Z_Sums.n_row
  obtain ⟨l, row, n, rfl, hb, hrow⟩ := hp
  have h1 := hb.b.hd_pos
  have h3 := Int.emod_nonneg n (show (MS.hd l : Int) ≠ 0 by omega)
  have h4 := Int.emod_lt_of_pos n (show (0 : Int) < MS.hd l by omega)
  change ST C _ [some (oSums cSums l row), some (dI n)] [] _
  repeat' walk_at "g1"
  obtain ⟨v, e, g1, g2, g3⟩ := hrow.2 (n % (MS.hd l : Int)).toNat (by omega)
  refine ro_ixN h3 e ?_
  repeat' walk_at "g1"
  refine ends_of ⟨rfl, _, rfl, fun l' row' n' e' => ?_⟩
  obtain ⟨rfl, rfl, rfl⟩ := o2_inj e'
  rw [decide_eq_true_iff]
  constructor
  · intro hv
    have hn0 : 0 ≤ n := by omega
    refine ⟨hn0, sm_up (hd_mem hb.b.ne) g1 (by omega) ?_⟩
    rw [g2]
    have : ((n.toNat % MS.hd l : Nat) : Int) = n % (MS.hd l : Int) := by rw [Int.natCast_emod, Int.toNat_of_nonneg hn0]
    omega
  · rintro ⟨hn0, hs⟩
    have := g3 n.toNat hs (by
      have : ((n.toNat % MS.hd l : Nat) : Int) = n % (MS.hd l : Int) := by rw [Int.natCast_emod, Int.toNat_of_nonneg hn0]
      omega)
    omega

theorem ok_Sums_has {f : Addr} {fd : FuncData} (F : Fun K "has" "Sums.has" s_Sums_has f fd) (B : Bt mg)
    (Z_Sums : ZSums K cSums) :
    FnOk P w K mg base CX0 1 f fd ["self", "n"] ((F_has cSums).sp K T) := by
  exact (okO_Sums_has F B Z_Sums).imp (i_has)

abbrev s_Sums_last_step : Stmt := inClass (topS 4) 5
theorem sc_Sums_last_step : FnScope ["self", "remainder", "fitting", "place", "member"] ["self", "remainder"] (defScope s_Sums_last_step) := ⟨rfl, rfl, rfl, by decide +kernel, rfl, by decide +kernel, by decide +kernel⟩
theorem ok_Sums_last_step {f : Addr} {fd : FuncData} (F : Fun K "last_step" "Sums.last_step" s_Sums_last_step f fd) (B : Bt mg)
    (Z_Sums : ZSums K cSums) :
    FnOk P w K mg base CX0 1 f fd ["self", "remainder"] ((c_last cSums).sp K T) := by
  refine ok_ct (c_last cSums) F sc_Sums_last_step rfl fun cdv A outer s H E hr => ⟨_, (pss_cons (ps_asg (pe_lst pa_nil) (pg_name (i := 2) sc_Sums_last_step.nd rfl (by first | exact Or.inl rfl | exact Or.inr rfl)))
      (pss_cons (ps_for PassesOwn.never rfl (pi_range2 (by rfl) B.b_range (pa_cons pe_int (pa_cons (pe_callB (k_len (K := K) rfl) (by rfl) B.b_len (by decide +kernel) (pa_cons (k_fld (K := K) rfl (pv 0) rfl) pa_nil)) pa_nil))) (pg_name (i := 3) sc_Sums_last_step.nd rfl (by first | exact Or.inl rfl | exact Or.inr rfl)) (pss_cons (ps_asg (pe_ix (k_ix (K := K) rfl) (k_fld (K := K) rfl (pv 0) rfl) (pv 3) (fun _ _ => rfl)) (pg_name (i := 4) sc_Sums_last_step.nd rfl (by first | exact Or.inl rfl | exact Or.inr rfl)))
      (pss_one (ps_if (pt_cmpR (k_eqD (K := K) rfl hr.units) (pe_op (k_addA (K := K) rfl) (pe_ix (k_ix (K := K) rfl) (k_fld (K := K) rfl (pv 0) rfl) (pe_op op_mod (pe_op op_sub (pv 1) (pv 4)) (k_fld (K := K) rfl (pv 0) rfl)) (fun _ _ => rfl)) (pv 4)) (pe_ix (k_ix (K := K) rfl) (k_fld (K := K) rfl (pv 0) rfl) (pv 1) (fun _ _ => rfl)) (nomark _)) (pss_one (ps_expr (k_bm (K := K) rfl (pe_bm PySem.F.plainAttrs_list PySem.F.slot_list_append PySem.F.type_list_append mt_append (pv 2) (pa_cons (pv 3) pa_nil))))) pss_nil))))
      (pss_one (ps_ret (pe_ix (k_ix (K := K) rfl) (pv 2) pe_int (fun _ _ => rfl)))))), fun C xs hn hp => ?_⟩
  have z_Sums := Z_Sums.cl
  have z_Sums_base := Z_Sums.n_base
  have z_Sums_by := Z_Sums.n_by
  have z_Sums_row := Z_Sums.n_row
  obtain ⟨l, row, r, rfl, hb, hrow, hr, h0⟩ := hp
  change ST C _ [some (oSums cSums l row), some (dI (r : Nat)), none, none, none] [] _
  have hbd := hb.bd
  have hll := hb.len
  obtain ⟨v, ev, hv1, hv2, hv3⟩ := hrow.2 r hr
  repeat' walk_at "g1"
  refine tj_lst ?_
  repeat' walk_at "g1"
  refine ⟨by decide, fun p hp => ?_⟩
  repeat' walk_at "g1"
  refine st_for (it_rng2 ?_)
  repeat' walk_at "g1"
  rw [List.length_map]
  refine ⟨⟨by decide, by decide, by omega, by omega⟩, ?_⟩
  refine ⟨fun i S F => ∃ (u3 u4 : Option SV) (fs : List Nat), S = [some (oSums cSums l row), some (dI (r : Nat)), some (.m p), u3, u4] ∧ F = [(p, .lst ((pN fs).map .d))] ∧ fs.length ≤ i ∧ (∀ q ∈ fs, StepOk l row r q) ∧ ∀ q, StepOk l row r q → q < 1 + i → q ∈ fs, ⟨_, _, [], rfl, rfl, Nat.le_refl _, (fun q hq => by cases hq), fun q hq h => by have := hq.ge; omega⟩, ?_, ?_⟩
  · rintro i y S F hi ⟨u3, u4, fs, rfl, rfl, hfl, hfs, hall⟩
    obtain ⟨hi2, rfl⟩ := rg_get hi
    have hil : 1 + i < l.length := by omega
    obtain ⟨a, ha⟩ : ∃ a, l[1 + i]? = some a := ⟨_, List.getElem?_eq_getElem hil⟩
    obtain ⟨q, hq1, hq2, hq3⟩ := back_q (a := a) hbd.1 hr
    obtain ⟨w, ew, hw1, hw2, hw3⟩ := hrow.2 q hq2
    rw [show (1 : Int) + (i : Int) = ((1 + i : Nat) : Int) by omega]
    repeat' walk_at "g1"
    refine ro_ixT (atI_n (pN_get ha)) ?_
    repeat' walk_at "g1"
    rw [← hq1]
    refine ro_ixT (atI_n (pN_get ew)) ?_
    repeat' walk_at "g1"
    refine ro_ixT (atI_n (pN_get ev)) ?_
    repeat' walk_at "g1"
    · rename_i hc
      have st : StepOk l row r (1 + i) := ⟨by omega, a, v, w, q, ha, ev, hq1, ew, by omega⟩
      refine app_go2 (xs := (pN fs).map .d) (List.Mem.head _) (by rw [List.length_map, List.length_map]; omega) ?_
      rw [setF_one, pN_snoc]
      repeat' walk_at "g1"
      refine ⟨_, _, fs ++ [1 + i], rfl, rfl, by rw [List.length_append]; exact Nat.add_le_add_right hfl 1, fun q hq => ?_, fun q hq h => ?_⟩
      · rcases List.mem_append.mp hq with z | z
        · exact hfs q z
        · have : q = 1 + i := by simpa using z
          rw [this]
          exact st
      · rw [List.mem_append]
        by_cases e : q = 1 + i
        · exact .inr (by simp [e])
        · exact .inl (hall q hq (by omega))
    · rename_i hc
      refine ⟨_, _, fs, rfl, rfl, by omega, hfs, fun q' hq' h => ?_⟩
      by_cases e : q' = 1 + i
      · exfalso
        subst e
        obtain ⟨_, a', v', w', q'', k1, k2, k3, k4, k5⟩ := hq'
        rw [ha] at k1
        rw [ev] at k2
        cases k1
        cases k2
        have : q'' = q := by omega
        subst this
        rw [ew] at k4
        cases k4
        omega
      · exact hall q' hq' (by omega)
  · rintro S F ⟨u3, u4, fs, rfl, rfl, hfl, hfs, hall⟩
    rw [rg_len] at hall
    obtain ⟨p0, hp0, st0⟩ := step_ex hb.b hrow hr h0
    have hin := hall p0 st0 (by omega)
    obtain ⟨x, rest, rfl⟩ : ∃ x rest, fs = x :: rest := by
      cases fs with
      | nil => cases hin
      | cons x rest => exact ⟨x, rest, rfl⟩
    repeat' walk_at "g1"
    refine ro_ixM (xs := (pN (x :: rest)).map .d) (x := dI (x : Nat)) (List.Mem.head _) (atI_n (j := 0) rfl) ?_
    refine ends_nilF ⟨rfl, x, rfl, fun l' row' r' e => ?_⟩
    obtain ⟨rfl, rfl, h⟩ := o2_inj e
    cases Int.ofNat.inj h
    exact hfs x List.mem_cons_self

abbrev s_Sums_counts : Stmt := inClass (topS 4) 4
theorem sc_Sums_counts : FnScope ["self", "n", "counts", "remainder", "place"] ["self", "n"] (defScope s_Sums_counts) := ⟨rfl, rfl, rfl, by decide +kernel, rfl, by decide +kernel, by decide +kernel⟩
theorem ok_Sums_counts {f : Addr} {fd : FuncData} (F : Fun K "counts" "Sums.counts" s_Sums_counts f fd) (B : Bt mg)
    (D_Sums_last_step : MethOk P w K mg base 1 cSums "last_step" ["self", "remainder"] ((c_last cSums).sp K T))
    (Z_Sums : ZSums K cSums) :
    FnOk P w K mg base CX0 2 f fd ["self", "n"] ((c_counts cSums).sp K T) := by
  refine ok_ct (c_counts cSums) F sc_Sums_counts rfl fun cdv A outer s H E hr => ⟨_, (pss_cons (ps_asg (pe_op op_rep (pe_lst (pa_cons pe_int pa_nil)) (pe_callB (k_len (K := K) rfl) (by rfl) B.b_len (by decide +kernel) (pa_cons (k_fld (K := K) rfl (pv 0) rfl) pa_nil))) (pg_name (i := 2) sc_Sums_counts.nd rfl (by first | exact Or.inl rfl | exact Or.inr rfl)))
      (pss_cons (ps_asg (pe_op op_mod (pv 1) (k_fld (K := K) rfl (pv 0) rfl)) (pg_name (i := 3) sc_Sums_counts.nd rfl (by first | exact Or.inl rfl | exact Or.inr rfl)))
      (pss_cons (ps_asg (pe_op op_fdivW (pe_op op_sub (pv 1) (pe_ix (k_ix (K := K) rfl) (k_fld (K := K) rfl (pv 0) rfl) (pv 3) (fun _ _ => rfl))) (k_fld (K := K) rfl (pv 0) rfl)) (pg_sub (pv 2) pe_int set_list))
      (pss_cons (ps_while PassesOwn.never (pt_cmpR (k_neD (K := K) rfl hr.units) (pv 3) pe_int (nomark _)) (pss_cons (ps_asg (pe_dmeth D_Sums_last_step hr (pv 0) (pa_cons (pv 3) pa_nil)) (pg_name (i := 4) sc_Sums_counts.nd rfl (by first | exact Or.inl rfl | exact Or.inr rfl)))
      (pss_cons (ps_augS (pv 2) (pv 4) (k_getL (K := K) rfl) pe_int ip_add set_list)
      (pss_one (ps_asg (pe_op op_mod (pe_op op_sub (pv 3) (pe_ix (k_ix (K := K) rfl) (k_fld (K := K) rfl (pv 0) rfl) (pv 4) (fun _ _ => rfl))) (k_fld (K := K) rfl (pv 0) rfl)) (pg_name (i := 3) sc_Sums_counts.nd rfl (by first | exact Or.inl rfl | exact Or.inr rfl)))))))
      (pss_one (ps_ret (pe_callTy (k_tuple (K := K) rfl) (by rfl) B.b_tuple (by decide +kernel) (pa_cons (pv 2) pa_nil)))))))), fun C xs hn hp => ?_⟩
  have z_Sums := Z_Sums.cl
  have z_Sums_base := Z_Sums.n_base
  have z_Sums_by := Z_Sums.n_by
  have z_Sums_row := Z_Sums.n_row
  obtain ⟨l, row, n, rfl, hb, hrow, hs⟩ := hp
  change ST C _ [some (oSums cSums l row), some (dI n), none, none, none] [] _
  have hbd := hb.bd
  have hll := hb.len
  have hne := hb.b.ne
  have g1 := Int.emod_nonneg n (show (MS.hd l : Int) ≠ 0 by omega)
  have g2 := Int.emod_lt_of_pos n (show (0 : Int) < MS.hd l by omega)
  obtain ⟨r0, hr0⟩ := Int.eq_ofNat_of_zero_le g1
  have hr1 : r0 < MS.hd l := by omega
  obtain ⟨v0, ev0, hv1, hv2, hv3⟩ := hrow.2 r0 hr1
  have hl0 : l[0]? = some (MS.hd l) := by
    cases l with
    | nil => exact absurd rfl hne
    | cons a t => rfl
  have hlpos : 0 < l.length := (List.getElem?_eq_some_iff.mp hl0).1
  obtain ⟨nn, rfl⟩ := Int.eq_ofNat_of_zero_le hs.1
  have hs2 := smI_nat.mp hs
  have hnr : nn % MS.hd l = r0 := by
    have : ((nn % MS.hd l : Nat) : Int) = r0 := by rw [Int.natCast_emod]; exact hr0
    omega
  have hvn := hv3 nn hs2 hnr
  obtain ⟨k0, hk0⟩ : ∃ k0, nn = v0 + MS.hd l * k0 := by
    refine ⟨(nn - v0) / MS.hd l, ?_⟩
    have hd : MS.hd l ∣ nn - v0 := Nat.dvd_of_mod_eq_zero (Nat.sub_mod_eq_zero_of_mod_eq (by rw [hv2, hnr]))
    rw [Nat.mul_div_cancel' hd]
    omega
  have hdiv : ((nn : Int) - (v0 : Int)) / (MS.hd l : Int) = k0 := by
    rw [hk0, show ((v0 + MS.hd l * k0 : Nat) : Int) - (v0 : Int) = (MS.hd l : Int) * (k0 : Int) by rw [Int.natCast_add, Int.natCast_mul]; omega]
    exact Int.mul_ediv_cancel_left _ (by omega)
  refine st_seq ?_
  repeat' walk_at "g0"
  refine tj_lst ?_
  repeat' walk_at "g0"
  refine ⟨by decide, fun a0 ha0 => ?_⟩
  repeat' walk_at "g0"
  rw [List.length_map]
  refine ro_rep1 (k := (l.length : Int)) (List.Mem.head _) ⟨by omega, by omega⟩ fun p hp => ?_
  repeat' walk_at "g0"
  refine st_sub (F1 := [(p, _)]) (List.Sublist.cons₂ _ (List.nil_sublist _)) ?_
  rw [Int.toNat_natCast]
  repeat' walk_at "g1"
  rw [hr0]
  refine ro_ixT (atI_n (pN_get ev0)) ?_
  repeat' walk_at "g1"
  rw [hdiv]
  refine set_go (xs := List.replicate l.length (dI 0)) (j := 0) (List.Mem.head _) (by rw [List.length_replicate]; exact ixN_0 hlpos) ?_
  rw [setF_one, show (List.replicate l.length (dI 0)).set 0 (dI k0) = ((List.replicate l.length (0 : Int)).set 0 (k0 : Int)).map (fun (x : Int) => dI x) by rw [List.map_set, List.map_replicate]]
  refine st_seq ?_
  refine st_while (fun k S F => ∃ (cs : List Int) (r : Nat) (u4 : Option SV), S = [some (oSums cSums l row), some (dI (nn : Nat)), some (.m p), some (dI (r : Nat)), u4] ∧ F = [(p, .lst (cs.map fun (x : Int) => dI x))] ∧ cs.length = l.length ∧ (∀ i ∈ cs, 0 ≤ i) ∧ r < MS.hd l ∧ row[r]? = some k ∧ dotI l cs + k = nn) ⟨v0, (List.replicate l.length (0 : Int)).set 0 (k0 : Int), r0, _, rfl, rfl, by rw [List.length_set, List.length_replicate], ?_, hr1, ev0, ?_⟩ ?_
  · intro i hi
    rcases List.mem_or_eq_of_mem_set hi with z | z
    · have := List.eq_of_mem_replicate z
      omega
    · omega
  · rw [dotI_set hl0 (c := 0) (by rw [List.getElem?_replicate, if_pos hlpos]), dotI_zero, hk0, Int.natCast_add, Int.natCast_mul, Int.sub_zero]
    omega
  rintro k S F ⟨cs, r, u4, rfl, rfl, hcl, hcp, hr, er, hdot⟩
  repeat' walk_at "g1"
  · rename_i hc
    have h0 : r ≠ 0 := fun e => hc (by rw [e]; rfl)
    refine cl_ct rfl ⟨l, row, r, rfl, hb, hrow, hr, h0⟩ ?_
    rintro y F' ⟨rfl, pl, rfl, hpl⟩ _
    obtain ⟨hge, a, v, w, q, k1, k2, k3, k4, k5⟩ := hpl l row r rfl
    rw [er] at k2
    cases k2
    have hpl2 : pl < cs.length := by rw [hcl]; exact (List.getElem?_eq_some_iff.mp k1).1
    have ec : cs[pl]? = some (cs[pl]) := List.getElem?_eq_getElem hpl2
    have hmd := back_q (a := a) hbd.1 hr
    dsimp only [List.nil_append]
    repeat' walk_at "g1"
    refine st_augS ?_
    repeat' walk_at "g1"
    refine ⟨p, (pl : Int), pl, cs.map fun (x : Int) => dI x, cs[pl], rfl, rfl, by omega, rfl, List.Mem.head _, map_get ec, ?_⟩
    repeat' walk_at "g1"
    refine ⟨_, _, rfl, List.Mem.head _, by rw [List.length_map]; exact hpl2, ?_⟩
    rw [setF_one, ← List.map_set]
    repeat' walk_at "g1"
    refine ro_ixT (atI_n (pN_get k1)) ?_
    repeat' walk_at "g1"
    rw [← k3]
    have hapos := hb.b.pos a (List.mem_of_getElem? k1)
    refine ⟨w, by omega, cs.set pl (cs[pl] + 1), q, _, rfl, rfl, by rw [List.length_set]; exact hcl, fun i hi => ?_, ?_, k4, ?_⟩
    · rcases List.mem_or_eq_of_mem_set hi with z | z
      · exact hcp i z
      · have := hcp _ (List.getElem_mem hpl2)
        omega
    · obtain ⟨q', h1, h2, _⟩ := hmd
      omega
    · rw [dotI_set k1 ec, show cs[pl] + 1 - cs[pl] = 1 by omega]
      omega
  · rename_i hc
    have h0 : r = 0 := by simpa using hc
    subst h0
    have hz := hrow.2 0 hr
    obtain ⟨v, ev, _, _, hmin⟩ := hz
    rw [er] at ev
    cases ev
    have := hmin 0 .zero (Nat.zero_mod _)
    refine rc_tupleM (ds := cs.map .int) (by rw [dI_d]; exact List.Mem.head _) ?_
    refine ends_of ⟨rfl, cs, rfl, fun l' row' n' e => ?_⟩
    obtain ⟨rfl, rfl, rfl⟩ := o2_inj e
    exact ⟨hcl, hcp, by omega⟩

abbrev s_reach_row : Stmt := topS 2
theorem sc_reach_row : FnScope ["numbers", "by", "row", "level", "after", "remainder", "number", "value", "place"] ["numbers", "by"] (defScope s_reach_row) := ⟨rfl, rfl, rfl, by decide +kernel, rfl, by decide +kernel, by decide +kernel⟩
theorem ok_reach_row {f : Addr} {fd : FuncData} (F : Fun K "reach_row" "reach_row" s_reach_row f fd) (B : Bt mg) :
    FnOk P w K mg base CX0 1 f fd ["numbers", "by"] ((c_reach).sp K T) := by
  refine ok_ct (c_reach) F sc_reach_row rfl fun cdv A outer s H E hr => ⟨_, (pss_cons (ps_asg (pe_op op_rep (pe_lst (pa_cons pe_non pa_nil)) (pv 1)) (pg_name (i := 2) sc_reach_row.nd rfl (by first | exact Or.inl rfl | exact Or.inr rfl)))
      (pss_cons (ps_asg pe_int (pg_sub (pv 2) pe_int set_list))
      (pss_cons (ps_asg (pe_lst (pa_cons pe_int pa_nil)) (pg_name (i := 3) sc_reach_row.nd rfl (by first | exact Or.inl rfl | exact Or.inr rfl)))
      (pss_cons (ps_while PassesOwn.never (pt_cmpR op_gt (pe_callB (k_len (K := K) rfl) (by rfl) B.b_len (by decide +kernel) (pa_cons (pv 3) pa_nil)) pe_int (nomark _)) (pss_cons (ps_asg (pe_lst pa_nil) (pg_name (i := 4) sc_reach_row.nd rfl (by first | exact Or.inl rfl | exact Or.inr rfl)))
      (pss_cons (ps_for PassesOwn.never rfl (k_seq (K := K) rfl (pv 3)) (pg_name (i := 5) sc_reach_row.nd rfl (by first | exact Or.inl rfl | exact Or.inr rfl)) (pss_one (ps_for PassesOwn.never rfl (k_seq (K := K) rfl (pv 0)) (pg_name (i := 6) sc_reach_row.nd rfl (by first | exact Or.inl rfl | exact Or.inr rfl)) (pss_cons (ps_asg (pe_op (k_addA (K := K) rfl) (pe_ix (k_ix (K := K) rfl) (pv 2) (pv 5) (fun _ _ => rfl)) (pv 6)) (pg_name (i := 7) sc_reach_row.nd rfl (by first | exact Or.inl rfl | exact Or.inr rfl)))
      (pss_cons (ps_asg (pe_op op_mod (pv 7) (pv 1)) (pg_name (i := 8) sc_reach_row.nd rfl (by first | exact Or.inl rfl | exact Or.inr rfl)))
      (pss_one (ps_if (PW.pt (pw_or (pt_cmpR op_isN (pe_ix (k_ix (K := K) rfl) (pv 2) (pv 8) (fun _ _ => rfl)) pe_non (nomark _)) (pw_or1 (pt_cmpR op_lt (pv 7) (pe_ix (k_ix (K := K) rfl) (pv 2) (pv 8) (fun _ _ => rfl)) (nomark _))))) (pss_cons (ps_asg (pv 7) (pg_sub (pv 2) (pv 8) set_list))
      (pss_one (ps_expr (k_bm (K := K) rfl (pe_bm PySem.F.plainAttrs_list PySem.F.slot_list_append PySem.F.type_list_append mt_append (pv 4) (pa_cons (pv 8) pa_nil)))))) pss_nil)))))))
      (pss_one (ps_asg (pe_callB (k_sortedS (w := w) rfl rfl) (by rfl) B.b_sorted (by decide +kernel) (pa_cons (pe_callTy (k_setI (K := K) (w := w) rfl rfl rfl) (by rfl) B.b_set (by decide +kernel) (pa_cons (pv 4) pa_nil)) pa_nil)) (pg_name (i := 3) sc_reach_row.nd rfl (by first | exact Or.inl rfl | exact Or.inr rfl)))))))
      (pss_one (ps_ret (pv 2))))))), fun C xs hn hp => ?_⟩
  obtain ⟨x, l, m, rfl, hx, hm0, hm1, hl, hll⟩ := hp
  change ST C _ [some x, some (dI m), none, none, none, none, none, none, none] [] _
  repeat' walk_at "g0"
  refine st_seq ?_
  repeat' walk_at "g0"
  refine tj_lst ?_
  repeat' walk_at "g0"
  refine ⟨by decide, fun a ha => ?_⟩
  repeat' walk_at "g0"
  refine ro_rep1 (k := (m : Int)) (List.Mem.head _) ⟨by omega, by omega⟩ fun p hp => ?_
  repeat' walk_at "g0"
  refine st_sub (F1 := [(p, _)]) (List.Sublist.cons₂ _ (List.nil_sublist _)) ?_
  refine st_seq ?_
  repeat' walk_at "g0"
  refine set_go (xs := List.replicate m dN) (j := 0) (List.Mem.head _) (by rw [List.length_replicate]; exact ixN_0 hm0) ?_
  rw [setF_one, show (List.replicate m dN).set 0 (dI 0) = (((List.replicate m none).set 0 (some 0)).map oD) by rw [List.map_set, List.map_replicate]; rfl]
  repeat' walk_at "g0"
  refine st_seq ?_
  repeat' walk_at "g0"
  refine tj_lstD ?_
  repeat' walk_at "g0"
  obtain ⟨N, hN⟩ := MS.ends m l ((List.replicate m none).set 0 (some 0), [0])
  refine st_seq ?_
  refine st_while (fun k S F => ∃ (st : MS.Row × List Nat) (u4 u5 u6 u7 u8 : Option SV), (rounds m l k st).2 = [] ∧ MS.Inv l m st ∧ S = [some x, some (dI m), some (.m p), some (.d (.list (pN st.2))), u4, u5, u6, u7, u8] ∧ F = [(p, mRow st.1)]) ⟨N, ((List.replicate m none).set 0 (some 0), [0]), _, _, _, _, _, hN, MS.inv_start hm0, rfl, rfl⟩ ?_
  rintro k S F ⟨⟨row, lev⟩, u4, u5, u6, u7, u8, hk, hinv, rfl, rfl⟩
  repeat' walk_at "g0"
  · rename_i hc
    have hlev : lev.length ≤ 63 := by
      have h1 := G.nodup_le (hinv.so.imp fun h => Nat.ne_of_lt h) (D := List.range m) fun r hr => List.mem_range.mpr (hinv.lt r hr)
      rw [List.length_range] at h1
      have h2 : lev.length ≤ m := h1
      omega
    refine st_seq ?_
    repeat' walk_at "g0"
    refine tj_lst ?_
    repeat' walk_at "g0"
    refine ⟨by decide, fun a2 ha2 => ?_⟩
    have hpa : p ≠ a2 := fun e => ha2 (by rw [e]; exact List.mem_cons_self)
    repeat' walk_at "g0"
    refine st_cut (fun S F => ∃ u5 u6 u7 u8 : Option SV, S = [some x, some (dI m), some (.m p), some (.d (.list (pN lev))), some (.m a2), u5, u6, u7, u8] ∧ F = [(a2, .lst ((level m l lev (row, [])).2.map fun n => dI (n : Nat))), (p, mRow (level m l lev (row, [])).1)]) ?_ ?_
    · refine st_for (it_seqX ?_)
      repeat' walk_at "g1"
      refine ⟨_, .inr rfl, ?_⟩
      refine ⟨fun i S F => ∃ u5 u6 u7 u8 : Option SV, S = [some x, some (dI m), some (.m p), some (.d (.list (pN lev))), some (.m a2), u5, u6, u7, u8] ∧ F = [(a2, .lst ((level m l (lev.take i) (row, [])).2.map fun n => dI (n : Nat))), (p, mRow (level m l (lev.take i) (row, [])).1)], ⟨_, _, _, _, rfl, rfl⟩, ?_, ?_⟩
      · rintro i y S F hi ⟨u5, u6, u7, u8, rfl, rfl⟩
        rw [List.map_map, List.getElem?_map] at hi
        obtain ⟨rem, hrem, rfl⟩ := Option.map_eq_some_iff.mp hi
        have hst : level m l (lev.take (i + 1)) (row, []) = inner m l rem (level m l (lev.take i) (row, [])) := foldl_next (f := fun st rem => inner m l rem st) hrem
        obtain ⟨i1, i2, i3⟩ := level_ok hm0 hl (lev.take i) (row, []) hinv.good
        have hdf := (level_dfd (l := l) (m := m) (lev.take i) (row, [])).1 rem (hinv.dfd rem (List.mem_of_getElem? hrem))
        have hln := level_len (l := l) (m := m) (lev.take i) (row, [])
        dsimp only [Function.comp]
        rw [hst]
        generalize level m l (lev.take i) (row, []) = st at i1 hdf hln
        have hlt : (lev.take i).length * l.length ≤ 63 * 63 := Nat.mul_le_mul (Nat.le_trans (List.length_take_le' _ _) hlev) (Nat.le_of_lt_succ hll)
        have hln : st.2.length ≤ 63 * 63 := Nat.le_trans hln (by show 0 + _ ≤ _; omega)
        repeat' walk_at "g1"
        refine st_for (it_seqX ?_)
        repeat' walk_at "g1"
        refine ⟨_, hx, ?_⟩
        refine ⟨fun j S F => ∃ u6 u7 u8 : Option SV, S = [some x, some (dI m), some (.m p), some (.d (.list (pN lev))), some (.m a2), some (dI (rem : Nat)), u6, u7, u8] ∧ F = [(a2, .lst (((l.take j).foldl (fun st num => one m rem num st) st).2.map fun n => dI (n : Nat))), (p, mRow ((l.take j).foldl (fun st num => one m rem num st) st).1)], ⟨_, _, _, rfl, rfl⟩, ?_, ?_⟩
        · rintro j y S F hj ⟨u6, u7, u8, rfl, rfl⟩
          rw [List.map_map, List.getElem?_map] at hj
          obtain ⟨num, hnum, rfl⟩ := Option.map_eq_some_iff.mp hj
          have hst2 : (l.take (j + 1)).foldl (fun st num => one m rem num st) st = one m rem num ((l.take j).foldl (fun st num => one m rem num st) st) := foldl_next (f := fun st num => one m rem num st) hnum
          obtain ⟨j1, _, _⟩ := inner_ok hm0 hl (rem := rem) (l.take j) st (fun a ha => List.mem_of_mem_take ha) i1
          have hdf2 := (inner_dfd (m := m) (rem := rem) (l.take j) st).1 rem hdf
          have hln2 := inner_len (m := m) (rem := rem) (l.take j) st
          have hn1 : 1 ≤ num := hl _ (List.mem_of_getElem? hnum)
          dsimp only
          rw [hst2]
          generalize (l.take j).foldl (fun st num => one m rem num st) st = st2 at j1 hdf2 hln2
          obtain ⟨v, hv⟩ := hdf2
          have hlt2 : (l.take j).length ≤ 63 := Nat.le_trans (List.length_take_le' _ _) (Nat.le_of_lt_succ hll)
          have hpl : (v + num) % m < st2.1.length := by rw [j1.len]; exact Nat.mod_lt _ hm0
          have e1 : (v : Int) + (num : Int) = ((v + num : Nat) : Int) := rfl
          dsimp only [Function.comp]
          repeat' walk_at "g1"
          refine ro_ixM (List.Mem.tail _ (List.Mem.head _)) (atI_n (oD_get hv)) ?_
          rw [oD_some]
          repeat' walk_at "g1"
          rw [e1, mod_nat]
          rcases hpv : st2.1[(v + num) % m]? with _ | _ | w
          · rw [List.getElem?_eq_none_iff] at hpv
            omega
          · rw [one_none hv hpv]
            refine ro_ixM (List.Mem.tail _ (List.Mem.head _)) (atI_n (oD_get hpv)) ?_
            rw [oD_none]
            repeat' walk_at "g1"
            refine set_go (xs := st2.1.map oD) (j := (v + num) % m) (List.Mem.tail _ (List.Mem.head _)) (by rw [List.length_map]; exact ixN_n hpl) ?_
            rw [setF_two hpa, oD_set]
            repeat' walk_at "g1"
            refine app_go2 (xs := st2.2.map fun n => dI (n : Nat)) (List.Mem.head _) (by rw [List.length_map]; omega) ?_
            rw [setF_head (by simpa using Ne.symm hpa)]
            exact ⟨_, _, _, rfl, by rw [List.map_append]; rfl⟩
          · refine ro_ixM (List.Mem.tail _ (List.Mem.head _)) (atI_n (oD_get hpv)) ?_
            rw [oD_some]
            repeat' walk_at "g1"
            refine ro_ixM (List.Mem.tail _ (List.Mem.head _)) (atI_n (oD_get hpv)) ?_
            rw [oD_some]
            repeat' walk_at "g1"
            · rename_i hlt3
              rw [one_less hv hpv (by omega)]
              repeat' walk_at "g1"
              refine set_go (xs := st2.1.map oD) (j := (v + num) % m) (List.Mem.tail _ (List.Mem.head _)) (by rw [List.length_map]; exact ixN_n hpl) ?_
              rw [setF_two hpa, oD_set]
              repeat' walk_at "g1"
              refine app_go2 (xs := st2.2.map fun n => dI (n : Nat)) (List.Mem.head _) (by rw [List.length_map]; omega) ?_
              rw [setF_head (by simpa using Ne.symm hpa)]
              exact ⟨_, _, _, rfl, by rw [List.map_append]; rfl⟩
            · rename_i hlt3
              rw [one_skip hv hpv (by omega)]
              exact ⟨_, _, _, rfl, rfl⟩
        · rintro S F ⟨u6, u7, u8, rfl, rfl⟩
          rw [List.length_map, List.length_map, List.take_length]
          exact ⟨_, _, _, _, rfl, rfl⟩
      · rintro S F ⟨u5, u6, u7, u8, rfl, rfl⟩
        rw [List.length_map, List.length_map, List.take_length]
        exact ⟨_, _, _, _, rfl, rfl⟩
    · rintro S F ⟨u5, u6, u7, u8, rfl, rfl⟩
      have hln := level_len (l := l) (m := m) lev (row, [])
      have hlt := level_lt (l := l) hm0 lev (row, []) (fun r z => nomatch z)
      have hle : lev.length * l.length ≤ 63 * 63 := Nat.mul_le_mul hlev (Nat.le_of_lt_succ hll)
      have hln : (level m l lev (row, [])).2.length ≤ 63 * 63 := Nat.le_trans hln (by show 0 + _ ≤ _; omega)
      refine st_asg (tj_sub (tj_frz (tj_sortset ?_)))
      repeat' walk_at "g1"
      refine ⟨(level m l lev (row, [])).2.map fun (n : Nat) => (n : Int), .inr ⟨a2, rfl, by rw [List.map_map]; exact List.Mem.head _⟩, by rw [List.length_map]; omega, fun out q h1 h2 hq => ?_⟩
      · have ho := sortU_is hlt h1 h2
        refine ⟨q, out.map .int, _, rfl, by rw [List.map_map]; rfl, [(p, _)], List.Sublist.cons _ (List.Sublist.refl _), ?_⟩
        repeat' walk_at "g1"
        cases k with
        | zero =>
          have hk : lev = [] := hk
          rw [hk] at hc
          exact absurd hc (by decide)
        | succ k =>
          subst ho
          exact ⟨k, Nat.lt_succ_self k, round m l (row, lev), _, _, _, _, _, hk, round_inv hm0 hl hinv, by rw [List.map_map]; rfl, rfl⟩
  · rename_i hc
    have hlev : lev = [] := by
      cases lev with
      | nil => rfl
      | cons a b => exact absurd (by show (0 : Int) < (((pN b).length + 1 : Nat) : Int); omega) hc
    subst hlev
    have hrow := inv_row hm0 hinv
    refine ends_full ⟨p, row, rfl, rfl, fun x' l' m' e h' => ?_⟩
    simp only [List.cons.injEq, SV.d.injEq, PyData.int.injEq, and_true] at e
    obtain ⟨rfl, e⟩ := e
    cases hx.inj h'
    rw [show m' = m by omega]
    exact hrow

abbrev s_least_row : Stmt := topS 3
theorem sc_least_row : FnScope ["base"] ["base"] (defScope s_least_row) := ⟨rfl, rfl, rfl, by decide +kernel, rfl, by decide +kernel, by decide +kernel⟩
theorem okO_least_row {f : Addr} {fd : FuncData} (F : Fun K "least_row" "least_row" s_least_row f fd) (B : Bt mg)
    (D_reach_row : DefOk P w K mg base 1 "reach_row" ["numbers", "by"] ((c_reach).sp K T)) :
    FnOk P w K mg base CX0 2 f fd ["base"] ((c_least).sp K T) := by
  refine ok_ct (c_least) F sc_least_row rfl fun cdv A outer s H E hr => ⟨_, (pss_one (ps_ret (pe_callTy (k_tuple (K := K) rfl) (by rfl) B.b_tuple (by decide +kernel) (pa_cons (pe_dcall D_reach_row hr (by rfl) (pa_cons (pv 0) (pa_cons (pe_ix (k_ix (K := K) rfl) (pv 0) pe_int (fun _ _ => rfl)) pa_nil))) pa_nil)))), fun C xs hn hp => ?_⟩
  obtain ⟨l, rfl, hb⟩ := hp
  have h1 := hb.b.hd_pos
  have h2 := hb.hd
  change ST C _ [some (tN l)] [] _
  repeat' walk_at "g1"
  refine ro_hd hb.b.ne ?_
  repeat' walk_at "g1"
  refine cl_ct rfl ⟨tN l, l, MS.hd l, rfl, .inl rfl, by omega, by omega, hb.b.pos, by have := hb.len; omega⟩ ?_
  rintro y F' ⟨p, row, rfl, rfl, hrow⟩ _
  have hr := hrow (tN l) l (MS.hd l) rfl (.inl rfl)
  obtain ⟨rn, rfl, hrn⟩ := row_full (by omega) hb.b.gcd hr
  repeat' walk_at "g1"
  refine rc_tupleM (ds := pN rn) (by rw [mRow_N]; exact List.Mem.head _) ?_
  refine ends_of ⟨rfl, rn, rfl, fun l' e => ?_⟩
  cases tN_inj e
  exact hrn

theorem ok_least_row {f : Addr} {fd : FuncData} (F : Fun K "least_row" "least_row" s_least_row f fd) (B : Bt mg)
    (D_reach_row : DefOk P w K mg base 1 "reach_row" ["numbers", "by"] ((c_reach).sp K T)) :
    FnOk P w K mg base CX0 2 f fd ["base"] ((F_least_row).sp K T) := by
  exact (okO_least_row F B D_reach_row).imp (i_least_row)

abbrev s_Sums___init__ : Stmt := inClass (topS 4) 0
theorem sc_Sums___init__ : FnScope ["self", "base"] ["self", "base"] (defScope s_Sums___init__) := ⟨rfl, rfl, rfl, by decide +kernel, rfl, by decide +kernel, by decide +kernel⟩
theorem ok_Sums___init__ {f : Addr} {fd : FuncData} (F : Fun K "__init__" "Sums.__init__" s_Sums___init__ f fd) (B : Bt mg)
    (D_least_row : DefOk P w K mg base 2 "least_row" ["base"] ((_root_.G.F_least_row).sp K T))
    (Z_Sums : ZSums K cSums) :
    FnOk P w K mg base CX0 3 f fd ["self", "base"] ((c_sinit cSums).sp K T) := by
  refine ok_ctb (c_sinit cSums) F sc_Sums___init__ rfl fun cdv A outer s H E hr => ⟨_, (pss_cons (k_sfld (K := K) rfl (pv 0) (pv 1) rfl)
      (pss_cons (k_sfld (K := K) rfl (pv 0) (pe_ix (k_ix (K := K) rfl) (pv 1) pe_int (fun _ _ => rfl)) rfl)
      (pss_one (k_sfld (K := K) rfl (pv 0) (pe_dcall D_least_row hr (by rfl) (pa_cons (pv 1) pa_nil)) rfl)))), fun C p mo xs hn hp => ?_⟩
  have z_Sums := Z_Sums.cl
  have z_Sums_base := Z_Sums.n_base
  have z_Sums_by := Z_Sums.n_by
  have z_Sums_row := Z_Sums.n_row
  obtain ⟨dx, l, rfl, rfl, hb⟩ := hp
  change ST C _ [some (.m p), some (tN l)] [(p, _)] _
  repeat' walk_at "g1"
  refine ro_hd hb.b.ne ?_
  repeat' walk_at "g1"
  refine cl_f1 hb ?_
  repeat' walk_at "g1"
  refine ⟨_, List.Sublist.refl _, rfl, fun dx' l' e1 e2 => ⟨rowL l, ?_, ?_⟩⟩
  · cases tN_inj e2
    exact rowL_ok hb.b
  · cases tN_inj e2
    cases e1
    rfl

abbrev s_containing_paper : Stmt := topS 16
theorem sc_containing_paper : FnScope ["one", "two", "sums", "member"] ["one", "two"] (defScope s_containing_paper) := ⟨rfl, rfl, rfl, by decide +kernel, rfl, by decide +kernel, by decide +kernel⟩
theorem ok_containing_paper {f : Addr} {fd : FuncData} (F : Fun K "containing_paper" "containing_paper" s_containing_paper f fd) (B : Bt mg) {cd Pt : Addr} (hc : fd.code = .ref cd) (TB : GxR.TabB base mg cd Pt) (hPt : TabOne T Pt)
    (D_Sums_has : MethOk P w K mg base 1 cSums "has" ["self", "n"] ((_root_.G.F_has cSums).sp K T))
    (D_Sums_counts : MethOk P w K mg base 2 cSums "counts" ["self", "n"] ((c_counts cSums).sp K T))
    (M_Sums : MakeOk P w K mg base 3 "Sums" cSums ["self", "base"] ((c_sinit cSums).sp K T))
    (Z_Sums : ZSums K cSums) :
    FnOk P w K mg base CX0 5 f fd ["one", "two"] ((c_cpaper).sp K T) := by
  refine ok_ctT (c_cpaper) F hc sc_containing_paper rfl fun A outer s H E hr => ⟨_, (pss_cons (ps_asg (pe_dmake M_Sums hr (by rfl) (pa_cons (pv 0) pa_nil)) (pg_name (i := 2) sc_containing_paper.nd rfl (by first | exact Or.inl rfl | exact Or.inr rfl)))
      (pss_cons (ps_for PassesOwn.never rfl (k_seq (K := K) rfl (pv 1)) (pg_name (i := 3) sc_containing_paper.nd rfl (by first | exact Or.inl rfl | exact Or.inr rfl)) (pss_one (ps_if (pt_not (pt_val (pe_dmeth D_Sums_has (hr.mono (by decide)) (pv 2) (pa_cons (pv 3) pa_nil)))) (pss_one (ps_ret (pe_tup (pa_cons pe_str (pa_cons (pv 3) (pa_cons (k_fld (K := K) rfl (pv 2) rfl) pa_nil)))))) pss_nil)))
      (pss_one (ps_ret (pe_tup (pa_cons pe_str (pa_cons (pe_tupG (N := ["sums", "member"]) (fr := ["sums"]) (js := [2]) hr (by rfl) B.b_tuple TB rfl (genOk_by (osc := defScope s_containing_paper) (XN := ["one", "two", "sums", "member"]) (by decide +kernel)) (k_seq (K := K) rfl (pv 1)) (fun _ _ _ _ _ hr => (pg_name (i := 1) (show List.Nodup (["sums", "member"] : List Str) by decide) rfl (by first | exact Or.inl rfl | exact Or.inr rfl))) (fun _ _ _ _ _ hr => pts_nil) (fun _ _ _ _ _ hr => (pe_dmeth D_Sums_counts (hr.mono (by decide)) (pv 0) (pa_cons (pv 1) pa_nil)))) pa_nil))))))), fun C xs hn hp => ?_⟩
  have z_Sums := Z_Sums.cl
  have z_Sums_base := Z_Sums.n_base
  have z_Sums_by := Z_Sums.n_by
  have z_Sums_row := Z_Sums.n_row
  obtain ⟨l1, l2, rfl, hb, hb2⟩ := hp
  change ST C _ [some (tN l1), some (tN l2), none, none] [] _
  have hll := hb2.len
  repeat' walk_at "e1"
  refine st_for (it_seqX ?_)
  repeat' walk_at "e1"
  refine ⟨pN l2, .inl rfl, ?_⟩
  refine ⟨fun i S F => ∃ (u3 : Option SV), S = [some (tN l1), some (tN l2), some (oS cSums l1), u3] ∧ F = [] ∧ ∀ a ∈ l2.take i, Sm l1 a, ⟨_, rfl, rfl, by rw [List.take_zero]; exact fun _ h => nomatch h⟩, ?_, ?_⟩
  · rintro i y S F hi ⟨u3, rfl, rfl, hin⟩
    rw [List.getElem?_map, List.getElem?_map] at hi
    obtain ⟨_, ha1, rfl⟩ := Option.map_eq_some_iff.mp hi
    obtain ⟨a, ha, rfl⟩ := Option.map_eq_some_iff.mp ha1
    have et : l2.take (i + 1) = l2.take i ++ [a] := by rw [List.take_add_one, ha]; rfl
    repeat' walk_at "g1"
    refine cl_f2 hb ?_
    repeat' walk_at "g1"
    · rename_i hc
      rw [smIb_nat, smb_no] at hc
      refine ends_nilF ⟨rfl, _, rfl, fun m1 m2 e => ?_⟩
      obtain ⟨rfl, rfl⟩ := tNN_inj e
      exact .inr ⟨a, List.mem_of_getElem? ha, hc, rfl⟩
    · rename_i hc
      rw [smIb_nat, smb_iff] at hc
      refine ⟨rfl, fun b hb => ?_⟩
      rw [et] at hb
      rcases List.mem_append.mp hb with hb | hb
      · exact hin b hb
      · rw [List.mem_singleton.mp hb]; exact hc
  · rintro S F ⟨u3, rfl, rfl, hin⟩
    rw [List.length_map, List.length_map, List.take_length] at hin
    repeat' walk_at "g1"
    refine tj_tupQ (α := Nat) (l := l2) (enc := fun a => dI (a : Nat)) (ρ := fun (a : Nat) c => ∃ cs : List Int, c = .tuple (cs.map .int) ∧ cs.length = l1.length ∧ (∀ i ∈ cs, 0 ≤ i) ∧ dotI l1 cs = a) hPt ?_ (by unfold Lng; omega) (fun a ha => ?_) fun ds hds => ?_
    · refine it_seqE ?_
      repeat' walk_at "e1"
    · walk_at "gs"
      repeat' walk_at "g1"
      refine ⟨by walk_at "ks", rfl, ?_⟩
      repeat' walk_at "g1"
      refine cl_ct rfl ⟨l1, rowL l1, _, rfl, hb, rowL_ok hb.b, smI_nat.mpr (hin a ha)⟩ ?_
      rintro y F' ⟨rfl, cs, rfl, hcs⟩ _
      exact ⟨rfl, _, rfl, cs, rfl, hcs _ _ _ rfl⟩
    · repeat' walk_at "g1"
      refine ends_nilF ⟨rfl, _, rfl, fun m1 m2 e => ?_⟩
      obtain ⟨rfl, rfl⟩ := tNN_inj e
      exact .inl ⟨hin, ds, rfl, hds⟩

abbrev s_u_law_same : Stmt := topS 19
theorem sc_u_law_same : FnScope ["actual", "due", "k"] ["actual", "due"] (defScope s_u_law_same) := ⟨rfl, rfl, rfl, by decide +kernel, rfl, by decide +kernel, by decide +kernel⟩
theorem step_u_law_same {f : Addr} {fd : FuncData} (F : Fun K "_law_same" "_law_same" s_u_law_same f fd) (B : Bt mg) {n : Nat} (D_u_law_same : DefOk P w K mg base n "_law_same" ["actual", "due"] ((c_same n).sp K T)) :
    FnOk P w K mg base CX0 (n + 1) f fd ["actual", "due"] ((c_same (n + 1)).sp K T) := by
  refine ok_ct (c_same (n + 1)) F sc_u_law_same rfl fun cdv A outer s H E hr => ⟨_, (pss_cons (ps_if (PW.pt (pw_or (pt_val (pe_callB (k_isi (K := K) rfl) (by rfl) B.b_isinstance (by decide +kernel) (pa_cons (pv 1) (pa_cons (pe_bltn (v := .ty "tuple") (by rfl) B.b_tuple (by decide +kernel) rfl) pa_nil)))) (pw_or1 (pt_val (pe_callB (k_isi (K := K) rfl) (by rfl) B.b_isinstance (by decide +kernel) (pa_cons (pv 1) (pa_cons (pe_bltn (v := .ty "list") (by rfl) B.b_list (by decide +kernel) rfl) pa_nil))))))) (pss_cons (ps_if (PW.pt (pw_or (pt_cmpR (k_neD (K := K) rfl hr.units) (pe_callB (k_isi (K := K) rfl) (by rfl) B.b_isinstance (by decide +kernel) (pa_cons (pv 1) (pa_cons (pe_bltn (v := .ty "tuple") (by rfl) B.b_tuple (by decide +kernel) rfl) pa_nil))) (pe_callB (k_isi (K := K) rfl) (by rfl) B.b_isinstance (by decide +kernel) (pa_cons (pv 0) (pa_cons (pe_bltn (v := .ty "tuple") (by rfl) B.b_tuple (by decide +kernel) rfl) pa_nil))) (nomark _)) (pw_or1 (pt_cmpR (k_neD (K := K) rfl hr.units) (pe_callB (k_isi (K := K) rfl) (by rfl) B.b_isinstance (by decide +kernel) (pa_cons (pv 1) (pa_cons (pe_bltn (v := .ty "list") (by rfl) B.b_list (by decide +kernel) rfl) pa_nil))) (pe_callB (k_isi (K := K) rfl) (by rfl) B.b_isinstance (by decide +kernel) (pa_cons (pv 0) (pa_cons (pe_bltn (v := .ty "list") (by rfl) B.b_list (by decide +kernel) rfl) pa_nil))) (nomark _))))) (pss_one (ps_ret pe_bl)) pss_nil)
      (pss_cons (ps_if (pt_cmpR (k_neD (K := K) rfl hr.units) (pe_callB (k_len (K := K) rfl) (by rfl) B.b_len (by decide +kernel) (pa_cons (pv 0) pa_nil)) (pe_callB (k_len (K := K) rfl) (by rfl) B.b_len (by decide +kernel) (pa_cons (pv 1) pa_nil)) (nomark _)) (pss_one (ps_ret pe_bl)) pss_nil)
      (pss_one (ps_ret (pe_cmpR (k_eqD (K := K) rfl hr.units) (pe_callB (k_len (K := K) rfl) (by rfl) B.b_len (by decide +kernel) (pa_cons (pe_lc (own := [("k", 2)]) rfl sc_u_law_same.nd (pi_range1 (by rfl) B.b_range (pa_cons (pe_callB (k_len (K := K) rfl) (by rfl) B.b_len (by decide +kernel) (pa_cons (pv 1) pa_nil)) pa_nil)) (blkOk_by (N := ["actual", "due", "k"]) (sc := defScope s_u_law_same) (by decide +kernel)) (fun _ _ _ _ _ => (pg_name (i := 2) sc_u_law_same.nd rfl (by first | exact Or.inl rfl | exact Or.inr rfl))) (fun _ _ _ _ _ => (pts_one (pt_not (pt_val (pe_dcall D_u_law_same hr (by rfl) (pa_cons (pe_ix (k_ix (K := K) rfl) (pv 0) (pv 2) (fun _ _ => rfl)) (pa_cons (pe_ix (k_ix (K := K) rfl) (pv 1) (pv 2) (fun _ _ => rfl)) pa_nil))))))) (fun _ _ _ _ _ => (pv 2))) pa_nil)) pe_int (nomark _)))))) pss_nil)
      (pss_cons (ps_if (pt_cmpR op_isN (pv 1) pe_non (nomark _)) (pss_one (ps_ret (pe_cmpR op_isN (pv 0) pe_non (nomark _)))) pss_nil)
      (pss_cons (ps_if (PW.pt (pw_or (pt_val (pe_callB (k_isi (K := K) rfl) (by rfl) B.b_isinstance (by decide +kernel) (pa_cons (pv 1) (pa_cons (pe_bltn (v := .ty "bool") (by rfl) B.b_bool (by decide +kernel) rfl) pa_nil)))) (pw_or1 (pt_val (pe_callB (k_isi (K := K) rfl) (by rfl) B.b_isinstance (by decide +kernel) (pa_cons (pv 0) (pa_cons (pe_bltn (v := .ty "bool") (by rfl) B.b_bool (by decide +kernel) rfl) pa_nil))))))) (pss_one (ps_ret (pe_and (pe_callB (k_isi (K := K) rfl) (by rfl) B.b_isinstance (by decide +kernel) (pa_cons (pv 1) (pa_cons (pe_bltn (v := .ty "bool") (by rfl) B.b_bool (by decide +kernel) rfl) pa_nil))) (pe_and (pe_callB (k_isi (K := K) rfl) (by rfl) B.b_isinstance (by decide +kernel) (pa_cons (pv 0) (pa_cons (pe_bltn (v := .ty "bool") (by rfl) B.b_bool (by decide +kernel) rfl) pa_nil))) (pe_one (pe_cmpR (k_eqD (K := K) rfl hr.units) (pv 0) (pv 1) (nomark _))))))) pss_nil)
      (pss_cons (ps_if (pt_val (pe_callB (k_isi (K := K) rfl) (by rfl) B.b_isinstance (by decide +kernel) (pa_cons (pv 1) (pa_cons (pe_bltn (v := .ty "int") (by rfl) B.b_int (by decide +kernel) rfl) pa_nil)))) (pss_one (ps_ret (pe_and (pe_callB (k_isi (K := K) rfl) (by rfl) B.b_isinstance (by decide +kernel) (pa_cons (pv 0) (pa_cons (pe_bltn (v := .ty "int") (by rfl) B.b_int (by decide +kernel) rfl) pa_nil))) (pe_one (pe_cmpR (k_eqD (K := K) rfl hr.units) (pv 0) (pv 1) (nomark _)))))) pss_nil)
      (pss_one (ps_ret (pe_and (pe_callB (k_isi (K := K) rfl) (by rfl) B.b_isinstance (by decide +kernel) (pa_cons (pv 0) (pa_cons (pe_bltn (v := .ty "str") (by rfl) B.b_str (by decide +kernel) rfl) pa_nil))) (pe_one (pe_cmpR (k_eqD (K := K) rfl hr.units) (pv 0) (pv 1) (nomark _)))))))))), fun C xs hn hp => ?_⟩
  obtain ⟨d, e, k, l, rfl, hd, hk, he, hl, hn⟩ := hp
  change ST C _ [some (.d d), some (.d e), none] [] _
  have se : SeqAt.shaped e = true := he.shaped (by omega)
  have sd : SeqAt.shaped d = true := hd.shaped hk
  cases e with
  | none =>
    repeat' walk_at "g1"
    exact ends_of ⟨rfl, _, rfl, by cases d <;> simp [isN]⟩
  | int j =>
    repeat' walk_at "g1"
    · exact ends_of ⟨rfl, _, rfl, by cases d <;> simp_all [isBl]⟩
    · refine ro_eqD sd se ?_ hd.noDic he.noDic
      exact ends_of ⟨rfl, _, rfl, by clear se sd he hd; cases d <;> simp_all [isInt, isBl, PyData.eqv]⟩
    · exact ends_of ⟨rfl, _, rfl, by clear se sd he hd; cases d <;> simp_all [isInt]⟩
  | bool j =>
    repeat' walk_at "g1"
    · refine ro_eqD sd se ?_ hd.noDic he.noDic
      exact ends_of ⟨rfl, _, rfl, by clear se sd he hd; cases d <;> simp_all [isBl, PyData.eqv]⟩
    · exact ends_of ⟨rfl, _, rfl, by clear se sd he hd; cases d <;> simp_all [isBl]⟩
  | str j =>
    repeat' walk_at "g1"
    · exact ends_of ⟨rfl, _, rfl, by clear se sd he hd; cases d <;> simp_all [isBl]⟩
    · refine ro_eqD sd se ?_ hd.noDic he.noDic
      rename_i h1 h2
      refine ends_of ⟨rfl, _, rfl, ?_⟩
      clear se sd he hd
      cases d with
      | str x => simp only [PyData.eqv, beq_iff_eq, PyData.str.injEq]
      | _ => simp [isStr] at h2
    · exact ends_of ⟨rfl, _, rfl, by clear se sd he hd; cases d <;> simp_all [isStr]⟩
  | dict j => cases he
  | list es =>
    repeat' walk_at "g1"
    · exact ends_of ⟨rfl, _, rfl, (fun z => by cases z), by rintro rfl; rename_i h; simp [isTup, isLst] at h⟩
    · exact ends_of ⟨rfl, _, rfl, (fun z => by cases z), by rintro rfl; rename_i h; simp [isTup, isLst] at h⟩
    · rename_i h1 h2
      obtain ⟨ds, rfl⟩ : ∃ ds, d = .list ds := by
        clear se sd he hd
        cases d with
        | list ds => exact ⟨ds, rfl⟩
        | _ => first | (simp [isTup, isLst] at h1; done) | (simp [isTup, isLst] at h2; done)
      repeat' walk_at "g1"
      · refine ends_of ⟨rfl, _, rfl, ?_⟩
        rename_i h3
        constructor
        · intro z; cases z
        · intro z; cases z; exact absurd rfl h3
      · rename_i h3
        have hln : ds.length = es.length := by omega
        cases he with
        | lst hz ho =>
        rename_i l
        cases hd with
        | lst hz2 ho2 =>
        rename_i k
        refine tj_lc (wok_name (by simp)) (it_rng1 ?_)
        repeat' walk_at "g1"
        refine ⟨by omega, fun D hD => ⟨fun i acc F' => F' = [] ∧ ∃ p : Nat → Bool, (∀ j d e, j < i → ds[j]? = some d → es[j]? = some e → (p j = true ↔ d = e)) ∧ acc = ((List.range i).filter fun j => !p j).map (fun j => dI (j : Nat)) ∧ i ≤ es.length, ⟨rfl, fun _ => true, fun j d e h => absurd h (Nat.not_lt_zero _), by simp, Nat.zero_le _⟩, ?_, ?_⟩⟩
        · rintro i y acc F' hi ⟨rfl, p, hp, hacc, hle⟩
          obtain ⟨hi2, rfl⟩ := rg_get hi
          have hi3 : i < es.length := by omega
          have hac : acc.length ≤ i := by
            rw [hacc, List.length_map]
            exact Nat.le_trans (List.length_filter_le _ _) (by simp)
          have g1 : es[i]? = some es[i] := List.getElem?_eq_getElem hi3
          have g2 : ds[i]? = some (ds[i]'(by omega)) := List.getElem?_eq_getElem _
          rw [Int.zero_add]
          refine tg_name ?_
          simp only [wipeS, List.map, List.set]
          repeat' walk_at "g1"
          refine ro_ixL (atI_nat g2) ?_
          repeat' walk_at "g1"
          refine ro_ixL (atI_nat g1) ?_
          repeat' walk_at "g1"
          refine cl_ct rfl ⟨_, _, k, l, rfl, ho2 _ (List.mem_of_getElem? g2), by omega, ho _ (List.mem_of_getElem? g1), by omega, by omega⟩ ?_
          rintro y F' ⟨rfl, b, rfl, hb⟩ _
          dsimp only [List.nil_append]
          have next : ∀ q : Nat → Bool, q = (fun j => if j = i then b else p j) → ∀ j d e, j < i + 1 → ds[j]? = some d → es[j]? = some e → (q j = true ↔ d = e) := by
            rintro q rfl j d e hj e1 e2
            by_cases hji : j = i
            · subst hji
              rw [g2] at e1
              rw [g1] at e2
              cases e1
              cases e2
              show (if j = j then b else p j) = true ↔ _
              rw [if_pos rfl]
              exact hb
            · show (if j = i then b else p j) = true ↔ _
              rw [if_neg hji]
              exact hp j d e (by omega) e1 e2
          have same : (List.range i).filter (fun j => !(if j = i then b else p j)) = (List.range i).filter fun j => !p j := by
            apply List.filter_congr
            intro j hj
            have := List.mem_range.mp hj
            rw [if_neg (by omega)]
          refine ⟨_, rfl, fun hc => ?_, fun hc => ?_⟩
          · have hb0 : b = false := by cases b <;> simp_all
            refine tj_var (x := dI (i : Nat)) rfl ⟨_, rfl, by omega, rfl, _, next _ rfl, ?_, by omega⟩
            rw [List.range_succ, List.filter_append, same, List.map_append, ← hacc, List.filter_cons, if_pos (by simp [hb0])]
            rfl
          · have hb0 : b = true := by cases b <;> simp_all
            refine ⟨_, rfl, rfl, _, next _ rfl, ?_, by omega⟩
            rw [List.range_succ, List.filter_append, same, List.map_append, ← hacc, List.filter_cons, if_neg (by simp [hb0])]
            simp
        · rintro acc F' ⟨rfl, p, hp, hacc, hle⟩
          rw [rg_len] at hp hacc
          repeat' walk_at "g1"
          refine ends_of ⟨rfl, _, rfl, ?_⟩
          rw [hacc, List.length_map]
          have q := same_places hln (p := p) fun j d e e1 e2 => hp j d e (by have := (List.getElem?_eq_some_iff.mp e2).1; omega) e1 e2
          rw [show ((es.length : Int)).toNat = es.length by omega]
          constructor
          · intro z
            rw [q.mp (by have := of_decide_eq_true z; omega)]
          · intro z
            cases z
            exact decide_eq_true (by rw [q.mpr rfl]; rfl)
  | tuple es =>
    repeat' walk_at "g1"
    · exact ends_of ⟨rfl, _, rfl, (fun z => by cases z), by rintro rfl; rename_i h; simp [isTup, isLst] at h⟩
    · exact ends_of ⟨rfl, _, rfl, (fun z => by cases z), by rintro rfl; rename_i h; simp [isTup, isLst] at h⟩
    · rename_i h1 h2
      obtain ⟨ds, rfl⟩ : ∃ ds, d = .tuple ds := by
        clear se sd he hd
        cases d with
        | tuple ds => exact ⟨ds, rfl⟩
        | _ => first | (simp [isTup, isLst] at h1; done) | (simp [isTup, isLst] at h2; done)
      repeat' walk_at "g1"
      · refine ends_of ⟨rfl, _, rfl, ?_⟩
        rename_i h3
        constructor
        · intro z; cases z
        · intro z; cases z; exact absurd rfl h3
      · rename_i h3
        have hln : ds.length = es.length := by omega
        cases he with
        | tup hz ho =>
        rename_i l
        cases hd with
        | tup hz2 ho2 =>
        rename_i k
        refine tj_lc (wok_name (by simp)) (it_rng1 ?_)
        repeat' walk_at "g1"
        refine ⟨by omega, fun D hD => ⟨fun i acc F' => F' = [] ∧ ∃ p : Nat → Bool, (∀ j d e, j < i → ds[j]? = some d → es[j]? = some e → (p j = true ↔ d = e)) ∧ acc = ((List.range i).filter fun j => !p j).map (fun j => dI (j : Nat)) ∧ i ≤ es.length, ⟨rfl, fun _ => true, fun j d e h => absurd h (Nat.not_lt_zero _), by simp, Nat.zero_le _⟩, ?_, ?_⟩⟩
        · rintro i y acc F' hi ⟨rfl, p, hp, hacc, hle⟩
          obtain ⟨hi2, rfl⟩ := rg_get hi
          have hi3 : i < es.length := by omega
          have hac : acc.length ≤ i := by
            rw [hacc, List.length_map]
            exact Nat.le_trans (List.length_filter_le _ _) (by simp)
          have g1 : es[i]? = some es[i] := List.getElem?_eq_getElem hi3
          have g2 : ds[i]? = some (ds[i]'(by omega)) := List.getElem?_eq_getElem _
          rw [Int.zero_add]
          refine tg_name ?_
          simp only [wipeS, List.map, List.set]
          repeat' walk_at "g1"
          refine ro_ixT (atI_nat g2) ?_
          repeat' walk_at "g1"
          refine ro_ixT (atI_nat g1) ?_
          repeat' walk_at "g1"
          refine cl_ct rfl ⟨_, _, k, l, rfl, ho2 _ (List.mem_of_getElem? g2), by omega, ho _ (List.mem_of_getElem? g1), by omega, by omega⟩ ?_
          rintro y F' ⟨rfl, b, rfl, hb⟩ _
          dsimp only [List.nil_append]
          have next : ∀ q : Nat → Bool, q = (fun j => if j = i then b else p j) → ∀ j d e, j < i + 1 → ds[j]? = some d → es[j]? = some e → (q j = true ↔ d = e) := by
            rintro q rfl j d e hj e1 e2
            by_cases hji : j = i
            · subst hji
              rw [g2] at e1
              rw [g1] at e2
              cases e1
              cases e2
              show (if j = j then b else p j) = true ↔ _
              rw [if_pos rfl]
              exact hb
            · show (if j = i then b else p j) = true ↔ _
              rw [if_neg hji]
              exact hp j d e (by omega) e1 e2
          have same : (List.range i).filter (fun j => !(if j = i then b else p j)) = (List.range i).filter fun j => !p j := by
            apply List.filter_congr
            intro j hj
            have := List.mem_range.mp hj
            rw [if_neg (by omega)]
          refine ⟨_, rfl, fun hc => ?_, fun hc => ?_⟩
          · have hb0 : b = false := by cases b <;> simp_all
            refine tj_var (x := dI (i : Nat)) rfl ⟨_, rfl, by omega, rfl, _, next _ rfl, ?_, by omega⟩
            rw [List.range_succ, List.filter_append, same, List.map_append, ← hacc, List.filter_cons, if_pos (by simp [hb0])]
            rfl
          · have hb0 : b = true := by cases b <;> simp_all
            refine ⟨_, rfl, rfl, _, next _ rfl, ?_, by omega⟩
            rw [List.range_succ, List.filter_append, same, List.map_append, ← hacc, List.filter_cons, if_neg (by simp [hb0])]
            simp
        · rintro acc F' ⟨rfl, p, hp, hacc, hle⟩
          rw [rg_len] at hp hacc
          repeat' walk_at "g1"
          refine ends_of ⟨rfl, _, rfl, ?_⟩
          rw [hacc, List.length_map]
          have q := same_places hln (p := p) fun j d e e1 e2 => hp j d e (by have := (List.getElem?_eq_some_iff.mp e2).1; omega) e1 e2
          rw [show ((es.length : Int)).toNat = es.length by omega]
          constructor
          · intro z
            rw [q.mp (by have := of_decide_eq_true z; omega)]
          · intro z
            cases z
            exact decide_eq_true (by rw [q.mpr rfl]; rfl)

theorem ok_u_law_same {f : Addr} {fd : FuncData} (F : Fun K "_law_same" "_law_same" s_u_law_same f fd) (B : Bt mg) (hm : mg "_law_same" = some (.ref f)) (hb : Binds K fd ["actual", "due"] []) : ∀ n : Nat,
    FnOk P w K mg base CX0 n f fd ["actual", "due"] ((c_same n).sp K T)
  | 0 => fn_none fun xs ⟨d, e, _, _, _, _, _, _, h, _⟩ => absurd h (Nat.not_lt_zero _)
  | n + 1 => step_u_law_same F B ⟨f, fd, ok_u_law_same F B hm hb n, hm, F.kp, hb⟩

abbrev s_is_worded : Stmt := topS 9
theorem sc_is_worded : FnScope ["value", "word", "length"] ["value", "word", "length"] (defScope s_is_worded) := ⟨rfl, rfl, rfl, by decide +kernel, rfl, by decide +kernel, by decide +kernel⟩
theorem ok_is_worded {f : Addr} {fd : FuncData} (F : Fun K "is_worded" "is_worded" s_is_worded f fd) (B : Bt mg) :
    FnOk P w K mg base CX0 1 f fd ["value", "word", "length"] ((cP3 (fun v w n => (∃ m, m ≤ 60 ∧ OkD m v) ∧ (∃ x, w = .str x ∧ PyData.canLay0 (.str x) = true) ∧ ∃ k : Int, n = .int k ∧ 1 ≤ k) (fun v w n => .bool (wordD v (strOf w) (intOf n)))).sp K T) := by
  refine ok_ct (cP3 (fun v w n => (∃ m, m ≤ 60 ∧ OkD m v) ∧ (∃ x, w = .str x ∧ PyData.canLay0 (.str x) = true) ∧ ∃ k : Int, n = .int k ∧ 1 ≤ k) (fun v w n => .bool (wordD v (strOf w) (intOf n)))) F sc_is_worded rfl fun cdv A outer s H E hr => ⟨_, (pss_cons (ps_if (PW.pt (pw_or (pt_not (pt_val (pe_callB (k_isi (K := K) rfl) (by rfl) B.b_isinstance (by decide +kernel) (pa_cons (pv 0) (pa_cons (pe_bltn (v := .ty "tuple") (by rfl) B.b_tuple (by decide +kernel) rfl) pa_nil))))) (pw_or1 (pt_cmpR (k_neD (K := K) rfl hr.units) (pe_callB (k_len (K := K) rfl) (by rfl) B.b_len (by decide +kernel) (pa_cons (pv 0) pa_nil)) (pv 2) (nomark _))))) (pss_one (ps_ret pe_bl)) pss_nil)
      (pss_one (ps_ret (pe_and (pe_callB (k_isi (K := K) rfl) (by rfl) B.b_isinstance (by decide +kernel) (pa_cons (pe_ix (k_ix (K := K) rfl) (pv 0) pe_int (fun _ _ => rfl)) (pa_cons (pe_bltn (v := .ty "str") (by rfl) B.b_str (by decide +kernel) rfl) pa_nil))) (pe_one (pe_cmpR (k_eqD (K := K) rfl hr.units) (pe_ix (k_ix (K := K) rfl) (pv 0) pe_int (fun _ _ => rfl)) (pv 1) (nomark _))))))), fun C xs hn hp => ?_⟩
  obtain ⟨d, _, _, rfl, ⟨m, hm, hok⟩, ⟨x, rfl, hx⟩, k, rfl, hk⟩ := hp
  change ST C _ [some (.d d), some (.d (.str x)), some (dI k)] [] _
  by_cases ht : isTup d = true
  · obtain ⟨ds, rfl⟩ := isTup_ex ht
    replace hok := hok.tup
    repeat' walk_at "g1"
    · rename_i hn
      exact ends_p3 (by
        unfold wordD intOf
        dsimp only
        rw [decide_eq_false hn]
        rfl)
    · rename_i hn
      have hz : ∃ y r, ds = y :: r := by
        cases ds with
        | nil =>
          have : ((0 : Nat) : Int) = k := hn
          omega
        | cons y r => exact ⟨y, r, rfl⟩
      obtain ⟨y, r, rfl⟩ := hz
      refine ro_ixT (d := y) (atI_n (j := 0) rfl) ?_
      repeat' walk_at "g1"
      · rename_i hc
        have hc : isStr y = true := hc
        cases y with
        | str z =>
          have hz := hok.tup_in (d := .str z) List.mem_cons_self
          refine ro_ixT (d := .str z) (atI_n (j := 0) rfl) ?_
          repeat' walk_at "g1"
          refine ro_eqN (n := m - 1) (m := 0) hz (by omega) (.str hx) (by decide) (.str _) (.str _) fun b hb => ?_
          exact ends_p3 (by
            unfold wordD intOf strOf
            dsimp only
            rw [decide_eq_true hn]
            simp only [List.head?_cons, Bool.true_and, PyData.bool.injEq]
            rw [Bool.eq_iff_iff, hb, PyData.str.injEq, beq_iff_eq])
        | _ => cases hc
      · rename_i hc
        have hc : isStr y = false := hc
        exact ends_p3 (by
          unfold wordD intOf strOf
          dsimp only
          rw [decide_eq_true hn]
          cases y <;> first | rfl | cases hc)
  · repeat' walk_at "g1"
    · exact ends_p3 (by cases d <;> first | rfl | exact absurd (by rfl) ht)
    · rename_i hc
      exact absurd hc ht

abbrev s_is_integer : Stmt := topS 6
theorem sc_is_integer : FnScope ["value"] ["value"] (defScope s_is_integer) := ⟨rfl, rfl, rfl, by decide +kernel, rfl, by decide +kernel, by decide +kernel⟩
theorem ok_is_integer {f : Addr} {fd : FuncData} (F : Fun K "is_integer" "is_integer" s_is_integer f fd) (B : Bt mg) :
    FnOk P w K mg base CX0 1 f fd ["value"] ((cP1 (fun _ => True) (fun d => .bool (isIntD d))).sp K T) := by
  refine ok_ct (cP1 (fun _ => True) (fun d => .bool (isIntD d))) F sc_is_integer rfl fun cdv A outer s H E hr => ⟨_, (pss_one (ps_ret (pe_and (pe_callB (k_isi (K := K) rfl) (by rfl) B.b_isinstance (by decide +kernel) (pa_cons (pv 0) (pa_cons (pe_bltn (v := .ty "int") (by rfl) B.b_int (by decide +kernel) rfl) pa_nil))) (pe_one (pe_not (pe_callB (k_isi (K := K) rfl) (by rfl) B.b_isinstance (by decide +kernel) (pa_cons (pv 0) (pa_cons (pe_bltn (v := .ty "bool") (by rfl) B.b_bool (by decide +kernel) rfl) pa_nil)))))))), fun C xs hn hp => ?_⟩
  obtain ⟨d, rfl, _⟩ := hp
  change ST C _ [some (.d d)] [] _
  repeat' walk_at "g1"
  · rename_i hc
    have hc : isInt d = true := hc
    exact ends_p1 (by unfold isIntD; rw [hc]; rfl)
  · rename_i hc
    have hc : isInt d = false := hc
    exact ends_p1 (by unfold isIntD; rw [hc]; rfl)

abbrev s_is_row : Stmt := topS 7
theorem sc_is_row : FnScope ["value", "length"] ["value", "length"] (defScope s_is_row) := ⟨rfl, rfl, rfl, by decide +kernel, rfl, by decide +kernel, by decide +kernel⟩
theorem ok_is_row {f : Addr} {fd : FuncData} (F : Fun K "is_row" "is_row" s_is_row f fd) (B : Bt mg) {cd Pt : Addr} (hc : fd.code = .ref cd) (TB : GxR.TabB base mg cd Pt) (hPt : TabOne T Pt)
    (D_is_integer : DefOk P w K mg base 1 "is_integer" ["value"] ((cP1 (fun _ => True) (fun d => .bool (isIntD d))).sp K T)) :
    FnOk P w K mg base CX0 3 f fd ["value", "length"] ((cP2 (fun _ n => ∃ i, n = .int i) (fun v n => .bool (rowD v (intOf n)))).sp K T) := by
  refine ok_ctT (cP2 (fun _ n => ∃ i, n = .int i) (fun v n => .bool (rowD v (intOf n)))) F hc sc_is_row rfl fun A outer s H E hr => ⟨_, (pss_one (ps_ret (pe_and (pe_callB (k_isi (K := K) rfl) (by rfl) B.b_isinstance (by decide +kernel) (pa_cons (pv 0) (pa_cons (pe_bltn (v := .ty "tuple") (by rfl) B.b_tuple (by decide +kernel) rfl) pa_nil))) (pe_and (pe_cmpR (k_eqD (K := K) rfl hr.units) (pe_callB (k_len (K := K) rfl) (by rfl) B.b_len (by decide +kernel) (pa_cons (pv 0) pa_nil)) (pv 1) (nomark _)) (pe_one (pe_allG (N := ["one"]) (fr := []) (js := []) hr (by rfl) B.b_all TB rfl (genOk_by (osc := defScope s_is_row) (XN := ["value", "length"]) (by decide +kernel)) (k_seq (K := K) rfl (pv 0)) (fun _ _ _ _ _ hr => (pg_name (i := 0) (show List.Nodup (["one"] : List Str) by decide) rfl (by first | exact Or.inl rfl | exact Or.inr rfl))) (fun _ _ _ _ _ hr => (pe_dcall D_is_integer hr (by rfl) (pa_cons (pv 0) pa_nil))))))))), fun C xs hn hp => ?_⟩
  obtain ⟨d, _, rfl, n, rfl⟩ := hp
  change ST C _ [some (.d d), some (dI n)] [] _
  refine st_ret (tj_andV ?_)
  repeat' walk_at "g1"
  · rename_i hc
    have hc : isTup d = true := hc
    obtain ⟨ds, rfl⟩ := isTup_ex hc
    repeat' walk_at "g1"
    · rename_i hn
      refine tj_all hPt (it_seqX ?_)
      repeat' walk_at "g1"
      refine ⟨ds, .inl rfl, PyData, ds, SV.d, isIntD, rfl, fun a ha => ?_, ?_⟩
      · walk_at "gs"
        refine tg_name ?_
        dsimp only [List.set]
        refine ⟨by walk_at "ks", ?_⟩
        repeat' walk_at "g1"
        refine cl_p1 trivial ?_
        exact ⟨rfl, rfl⟩
      · exact ends_p2 (by
          unfold rowD intOf
          dsimp only
          rw [decide_eq_true hn]
          rfl)
    · rename_i hn
      exact ends_p2 (by
        unfold rowD intOf
        dsimp only
        rw [decide_eq_false hn]
        rfl)
  · rename_i hc
    have hc : isTup d = false := hc
    exact ends_p2 (by cases d <;> first | rfl | cases hc)

abbrev s_is_counts : Stmt := topS 8
theorem sc_is_counts : FnScope ["value", "length"] ["value", "length"] (defScope s_is_counts) := ⟨rfl, rfl, rfl, by decide +kernel, rfl, by decide +kernel, by decide +kernel⟩
theorem ok_is_counts {f : Addr} {fd : FuncData} (F : Fun K "is_counts" "is_counts" s_is_counts f fd) (B : Bt mg) {cd Pt : Addr} (hc : fd.code = .ref cd) (TB : GxR.TabB base mg cd Pt) (hPt : TabOne T Pt)
    (D_is_row : DefOk P w K mg base 3 "is_row" ["value", "length"] ((cP2 (fun _ n => ∃ i, n = .int i) (fun v n => .bool (rowD v (intOf n)))).sp K T)) :
    FnOk P w K mg base CX0 4 f fd ["value", "length"] ((cP2 (fun _ n => ∃ i, n = .int i) (fun v n => .bool (countsD v (intOf n)))).sp K T) := by
  refine ok_ctT (cP2 (fun _ n => ∃ i, n = .int i) (fun v n => .bool (countsD v (intOf n)))) F hc sc_is_counts rfl fun A outer s H E hr => ⟨_, (pss_one (ps_ret (pe_and (pe_dcall D_is_row hr (by rfl) (pa_cons (pv 0) (pa_cons (pv 1) pa_nil))) (pe_one (pe_allG (N := ["one"]) (fr := []) (js := []) hr (by rfl) B.b_all TB rfl (genOk_by (osc := defScope s_is_counts) (XN := ["value", "length"]) (by decide +kernel)) (k_seq (K := K) rfl (pv 0)) (fun _ _ _ _ _ hr => (pg_name (i := 0) (show List.Nodup (["one"] : List Str) by decide) rfl (by first | exact Or.inl rfl | exact Or.inr rfl))) (fun _ _ _ _ _ hr => (pe_cmpR op_ge (pv 0) pe_int (nomark _)))))))), fun C xs hn hp => ?_⟩
  obtain ⟨d, _, rfl, n, rfl⟩ := hp
  change ST C _ [some (.d d), some (dI n)] [] _
  refine st_ret (tj_andV ?_)
  repeat' walk_at "g1"
  refine cl_p2 ⟨_, rfl⟩ ?_
  repeat' walk_at "g1"
  · rename_i hc
    have hc : rowD d n = true := hc
    cases d with
    | tuple ds =>
      unfold rowD at hc
      simp only [Bool.and_eq_true, decide_eq_true_eq] at hc
      obtain ⟨h1, h2⟩ := hc
      refine tj_all hPt (it_seqX ?_)
      repeat' walk_at "g1"
      refine ⟨ds, .inl rfl, PyData, ds, SV.d, geD, rfl, fun a ha => ?_, ?_⟩
      · obtain ⟨i, rfl⟩ := isIntD_iff.mp (List.all_eq_true.mp h2 a ha)
        walk_at "gs"
        refine tg_name ?_
        dsimp only [List.set]
        refine ⟨by walk_at "ks", ?_⟩
        repeat' walk_at "g1"
        exact ⟨rfl, rfl⟩
      · exact ends_p2 (by
          unfold countsD intOf
          dsimp only
          rw [decide_eq_true h1, h2]
          rfl)
    | _ => cases hc
  · rename_i hc
    have hc : rowD d n = false := hc
    exact ends_p2 (by
      cases d with
      | tuple ds =>
        unfold rowD at hc
        dsimp only at hc
        unfold countsD intOf
        dsimp only
        rw [hc]
        rfl
      | _ => rfl)

abbrev s_is_potential : Stmt := topS 13
theorem sc_is_potential : FnScope ["base", "row", "by", "remainder", "member"] ["base", "row"] (defScope s_is_potential) := ⟨rfl, rfl, rfl, by decide +kernel, rfl, by decide +kernel, by decide +kernel⟩
theorem ok_is_potential {f : Addr} {fd : FuncData} (F : Fun K "is_potential" "is_potential" s_is_potential f fd) (B : Bt mg)
    (D_is_counts : DefOk P w K mg base 4 "is_counts" ["value", "length"] ((cP2 (fun _ n => ∃ i, n = .int i) (fun v n => .bool (countsD v (intOf n)))).sp K T)) :
    FnOk P w K mg base CX0 5 f fd ["base", "row"] ((cP2 (fun b c => ∃ l, b = .tuple (pN l) ∧ BaseB l) (fun b c => .bool (potL (natsOf b) c))).sp K T) := by
  refine ok_ct (cP2 (fun b c => ∃ l, b = .tuple (pN l) ∧ BaseB l) (fun b c => .bool (potL (natsOf b) c))) F sc_is_potential rfl fun cdv A outer s H E hr => ⟨_, (pss_cons (ps_asg (pe_ix (k_ix (K := K) rfl) (pv 0) pe_int (fun _ _ => rfl)) (pg_name (i := 2) sc_is_potential.nd rfl (by first | exact Or.inl rfl | exact Or.inr rfl)))
      (pss_cons (ps_if (PW.pt (pw_or (pt_not (pt_val (pe_dcall D_is_counts hr (by rfl) (pa_cons (pv 1) (pa_cons (pv 2) pa_nil))))) (pw_or1 (pt_cmpR (k_neD (K := K) rfl hr.units) (pe_ix (k_ix (K := K) rfl) (pv 1) pe_int (fun _ _ => rfl)) pe_int (nomark _))))) (pss_one (ps_ret pe_bl)) pss_nil)
      (pss_cons (ps_for PassesOwn.never rfl (pi_range1 (by rfl) B.b_range (pa_cons (pv 2) pa_nil)) (pg_name (i := 3) sc_is_potential.nd rfl (by first | exact Or.inl rfl | exact Or.inr rfl)) (pss_one (ps_for PassesOwn.never rfl (k_seq (K := K) rfl (pv 0)) (pg_name (i := 4) sc_is_potential.nd rfl (by first | exact Or.inl rfl | exact Or.inr rfl)) (pss_one (ps_if (pt_cmpR op_gt (pe_ix (k_ix (K := K) rfl) (pv 1) (pe_op op_mod (pe_op (k_addA (K := K) rfl) (pv 3) (pv 4)) (pv 2)) (fun _ _ => rfl)) (pe_op (k_addA (K := K) rfl) (pe_ix (k_ix (K := K) rfl) (pv 1) (pv 3) (fun _ _ => rfl)) (pv 4)) (nomark _)) (pss_one (ps_ret pe_bl)) pss_nil)))))
      (pss_one (ps_ret pe_bl))))), fun C xs hn hp => ?_⟩
  obtain ⟨_, c, rfl, l, rfl, hb⟩ := hp
  change ST C _ [some (tN l), some (.d c), none, none, none] [] _
  have hbd := hb.bd
  refine st_seq ?_
  repeat' walk_at "g0"
  refine ro_hd hb.b.ne ?_
  repeat' walk_at "g1"
  refine cl_p2 ⟨_, rfl⟩ ?_
  walk_at "un"
  repeat' walk_at "g1"
  · rename_i hc _
    exact ends_p2 (by unfold potL; walk_at "un"; rw [hc]; rfl)
  rename_i hc
  obtain ⟨cs, rfl, h1, h2⟩ := countsD_iff.mp hc
  have hat : ∀ i, i < MS.hd l → cs[i]? = some (atD (.tuple (cs.map .int)) i) := fun i hi => by
    have : cs[i]? = some (cs[i]'(by omega)) := List.getElem?_eq_getElem _
    rw [this]
    unfold atD
    rw [intsOf_map, List.getD_eq_getElem?_getD, this]
    rfl
  refine ro_ixT (atI_n (j := 0) (map_get (hat 0 (by omega)))) ?_
  repeat' walk_at "g1"
  · rename_i h0
    exact ends_p2 (by unfold potL; walk_at "un"; rw [hc, decide_eq_false h0]; rfl)
  rename_i h0
  refine st_for (it_rng1 ?_)
  repeat' walk_at "g1"
  refine ⟨⟨by omega, by omega⟩, ?_⟩
  refine ⟨fun i S F => ∃ u3 u4 : Option SV, S = [some (tN l), some (.d (.tuple (cs.map .int))), some (dI (MS.hd l : Nat)), u3, u4] ∧ F = [] ∧ ∀ r, r < i → l.all (fun a => !decide (atD (.tuple (cs.map .int)) r + a < atD (.tuple (cs.map .int)) ((r + a) % MS.hd l))) = true, ⟨_, _, rfl, rfl, fun r hr => absurd hr (Nat.not_lt_zero _)⟩, ?_, ?_⟩
  · rintro r y S F hi ⟨u3, u4, rfl, rfl, hI⟩
    obtain ⟨hr, rfl⟩ := rg_get hi
    have hr2 : r < MS.hd l := by omega
    rw [show (0 : Int) + (r : Int) = ((r : Nat) : Int) by omega]
    refine tg_name ?_
    dsimp only [List.set]
    refine st_for (it_seqX ?_)
    repeat' walk_at "g1"
    refine ⟨_, .inl rfl, ?_⟩
    refine ⟨fun j S F => ∃ u4 : Option SV, S = [some (tN l), some (.d (.tuple (cs.map .int))), some (dI (MS.hd l : Nat)), some (dI (r : Nat)), u4] ∧ F = [] ∧ ∀ a ∈ l.take j, (!decide (atD (.tuple (cs.map .int)) r + a < atD (.tuple (cs.map .int)) ((r + a) % MS.hd l))) = true, ⟨_, rfl, rfl, fun a ha => by simp at ha⟩, ?_, ?_⟩
    · rintro j y S F hj ⟨u4, rfl, rfl, hJ⟩
      rw [pN_d, List.getElem?_map] at hj
      obtain ⟨a, ha, rfl⟩ := Option.map_eq_some_iff.mp hj
      have hm : (((r : Int) + (a : Int)) % (MS.hd l : Int)) = (((r + a) % MS.hd l : Nat) : Int) := by rw [Int.natCast_emod, Int.natCast_add]
      have hlt : (r + a) % MS.hd l < MS.hd l := Nat.mod_lt _ hbd.1
      repeat' walk_at "g1"
      rw [hm]
      refine ro_ixT (atI_n (map_get (hat _ hlt))) ?_
      repeat' walk_at "g1"
      refine ro_ixT (atI_n (map_get (hat r hr2))) ?_
      repeat' walk_at "g1"
      · rename_i hx
        refine ends_p2 (f := fun b c => .bool (potL (natsOf b) c)) ?_
        have : ((List.range (MS.hd l)).all fun r => l.all fun a => !decide (atD (.tuple (cs.map .int)) r + a < atD (.tuple (cs.map .int)) ((r + a) % MS.hd l))) = false := by
          rw [Bool.eq_false_iff]
          intro z
          have z1 := List.all_eq_true.mp (List.all_eq_true.mp z r (List.mem_range.mpr hr2)) a (List.mem_of_getElem? ha)
          rw [decide_eq_true hx] at z1
          cases z1
        unfold potL
        walk_at "un"
        rw [this, Bool.and_false]
      · rename_i hx
        refine ⟨rfl, fun b hb2 => ?_⟩
        rw [List.take_add_one, ha] at hb2
        rcases List.mem_append.mp hb2 with z | z
        · exact hJ b z
        · have : b = a := by simpa using z
          subst this
          rw [decide_eq_false hx]
          rfl
    · rintro S F ⟨u4, rfl, rfl, hJ⟩
      refine ⟨_, _, rfl, rfl, fun r' hr' => ?_⟩
      by_cases e : r' = r
      · subst e
        rw [List.length_map, List.length_map, List.take_length] at hJ
        exact List.all_eq_true.mpr hJ
      · exact hI r' (by omega)
  · rintro S F ⟨u3, u4, rfl, rfl, hI⟩
    rw [rg_len] at hI
    repeat' walk_at "g1"
    exact ends_p2 (by
      unfold potL
      walk_at "un"
      have : ((List.range (MS.hd l)).all fun r => l.all fun a => !decide (atD (.tuple (cs.map .int)) r + a < atD (.tuple (cs.map .int)) ((r + a) % MS.hd l))) = true := List.all_eq_true.mpr fun r hr => hI r (by have := List.mem_range.mp hr; omega)
      rw [hc, this]
      rw [decide_eq_true h0]
      rfl)

abbrev s_is_kept_out : Stmt := topS 14
theorem sc_is_kept_out : FnScope ["base", "n", "row"] ["base", "n", "row"] (defScope s_is_kept_out) := ⟨rfl, rfl, rfl, by decide +kernel, rfl, by decide +kernel, by decide +kernel⟩
theorem ok_is_kept_out {f : Addr} {fd : FuncData} (F : Fun K "is_kept_out" "is_kept_out" s_is_kept_out f fd) (B : Bt mg)
    (D_is_potential : DefOk P w K mg base 5 "is_potential" ["base", "row"] ((cP2 (fun b c => ∃ l, b = .tuple (pN l) ∧ BaseB l) (fun b c => .bool (potL (natsOf b) c))).sp K T)) :
    FnOk P w K mg base CX0 6 f fd ["base", "n", "row"] ((cP3 (fun b n c => (∃ l, b = .tuple (pN l) ∧ BaseB l) ∧ ∃ i, n = .int i) (fun b n c => .bool (keptL (natsOf b) (intOf n) c))).sp K T) := by
  refine ok_ct (cP3 (fun b n c => (∃ l, b = .tuple (pN l) ∧ BaseB l) ∧ ∃ i, n = .int i) (fun b n c => .bool (keptL (natsOf b) (intOf n) c))) F sc_is_kept_out rfl fun cdv A outer s H E hr => ⟨_, (pss_one (ps_ret (pe_and (pe_dcall D_is_potential hr (by rfl) (pa_cons (pv 0) (pa_cons (pv 2) pa_nil))) (pe_one (pe_cmpR op_lt (pv 1) (pe_ix (k_ix (K := K) rfl) (pv 2) (pe_op op_mod (pv 1) (pe_ix (k_ix (K := K) rfl) (pv 0) pe_int (fun _ _ => rfl))) (fun _ _ => rfl)) (nomark _)))))), fun C xs hn hp => ?_⟩
  obtain ⟨_, _, c, rfl, ⟨l, rfl, hb⟩, n, rfl⟩ := hp
  change ST C _ [some (tN l), some (dI n), some (.d c)] [] _
  have hbd := hb.bd
  repeat' walk_at "g1"
  refine cl_p2 ⟨l, rfl, hb⟩ ?_
  walk_at "un"
  repeat' walk_at "g1"
  · rename_i hc
    have hc2 : countsD c (MS.hd l) = true := by
      unfold potL at hc
      rw [Bool.and_eq_true, Bool.and_eq_true] at hc
      exact hc.1.1
    obtain ⟨cs, rfl, h1, h2⟩ := countsD_iff.mp hc2
    refine ro_hd hb.b.ne ?_
    repeat' walk_at "g1"
    have g1 := Int.emod_nonneg n (show (MS.hd l : Int) ≠ 0 by omega)
    have g2 := Int.emod_lt_of_pos n (show (0 : Int) < MS.hd l by omega)
    have hat : cs[(n % (MS.hd l : Int)).toNat]? = some (atD (.tuple (cs.map .int)) (n % (MS.hd l : Int)).toNat) := by
      have : cs[(n % (MS.hd l : Int)).toNat]? = some (cs[(n % (MS.hd l : Int)).toNat]'(by omega)) := List.getElem?_eq_getElem _
      rw [this]
      unfold atD
      rw [intsOf_map, List.getD_eq_getElem?_getD, this]
      rfl
    refine ro_ixT (atI_nat' g1 (map_get hat)) ?_
    repeat' walk_at "g1"
    exact ends_p3 (by unfold keptL; walk_at "un"; rw [hc]; rfl)
  · rename_i hc
    exact ends_p3 (by unfold keptL; walk_at "un"; rw [hc]; rfl)

abbrev s_total : Stmt := topS 11
theorem sc_total : FnScope ["base", "counts", "member", "count"] ["base", "counts"] (defScope s_total) := ⟨rfl, rfl, rfl, by decide +kernel, rfl, by decide +kernel, by decide +kernel⟩
theorem ok_total {f : Addr} {fd : FuncData} (F : Fun K "total" "total" s_total f fd) (B : Bt mg) :
    FnOk P w K mg base CX0 1 f fd ["base", "counts"] ((cP2 (fun b c => (∃ l, b = .tuple (pN l) ∧ BaseB l) ∧ ∃ cs : List Int, c = .tuple (cs.map .int)) (fun b c => .int (MS.dotI (natsOf b) (intsOf c)))).sp K T) := by
  refine ok_ct (cP2 (fun b c => (∃ l, b = .tuple (pN l) ∧ BaseB l) ∧ ∃ cs : List Int, c = .tuple (cs.map .int)) (fun b c => .int (MS.dotI (natsOf b) (intsOf c)))) F sc_total rfl fun cdv A outer s H E hr => ⟨_, (pss_one (ps_ret (pe_callB (k_sum (K := K) rfl rfl) (by rfl) B.b_sum (by decide +kernel) (pa_cons (pe_lc (own := [("member", 2), ("count", 3)]) rfl sc_total.nd (k_zip (K := K) rfl (by rfl) B.b_zip (pa_cons (pv 0) (pa_cons (pv 1) pa_nil))) (blkOk_by (N := ["base", "counts", "member", "count"]) (sc := defScope s_total) (by decide +kernel)) (fun _ _ _ _ _ => (k_gtup (K := K) (n := 2) rfl rfl (pgs_cons (pg_name (i := 2) sc_total.nd rfl (by first | exact Or.inl rfl | exact Or.inr rfl)) (pgs_cons (pg_name (i := 3) sc_total.nd rfl (by first | exact Or.inl rfl | exact Or.inr rfl)) pgs_nil)))) (fun _ _ _ _ _ => pts_nil) (fun _ _ _ _ _ => (pe_op op_mul (pv 2) (pv 3)))) pa_nil)))), fun C xs hn hp => ?_⟩
  obtain ⟨_, _, rfl, ⟨l, rfl, hb⟩, cs, rfl⟩ := hp
  change ST C _ [some (tN l), some (.d (.tuple (cs.map .int))), none, none] [] _
  repeat' walk_at "g1"
  refine tj_lcD (wok_tup2 (List.Mem.head _) (List.Mem.tail _ (List.Mem.head _))) (it_zipT ?_)
  repeat' walk_at "g1"
  refine ⟨(Nat × Int), l.zip cs, (fun p => .d (.tuple [.int (p.1 : Nat), .int p.2])), (fun _ => true), (fun p => .int ((p.1 : Int) * p.2)), ?_, by rw [List.length_zip]; have := hb.len; omega, fun D acc p hp hD => ?_, ?_⟩
  · rw [pairs, pN, List.zip_map, List.map_map]
    rfl
  · have hm := hb.le p.1 (List.of_mem_zip hp).1
    refine tg_tup2 ?_
    dsimp only [wipeS, List.map, List.set]
    repeat' walk_at "g1"
    refine ⟨rfl, rfl, fun h => ?_⟩
    repeat' walk_at "g1"
    exact ⟨rfl, rfl⟩
  · rw [fil_true]
    repeat' walk_at "g1"
    refine rc_sum (ns := (l.zip cs).map fun p => (p.1 : Int) * p.2) (.inl (by rw [List.map_map]; rfl)) ?_
    exact ends_p2 (by rw [natsOf_pN, intsOf_map, dotI_zip])

abbrev s_is_way : Stmt := topS 12
theorem sc_is_way : FnScope ["base", "n", "counts"] ["base", "n", "counts"] (defScope s_is_way) := ⟨rfl, rfl, rfl, by decide +kernel, rfl, by decide +kernel, by decide +kernel⟩
theorem ok_is_way {f : Addr} {fd : FuncData} (F : Fun K "is_way" "is_way" s_is_way f fd) (B : Bt mg)
    (D_is_counts : DefOk P w K mg base 4 "is_counts" ["value", "length"] ((cP2 (fun _ n => ∃ i, n = .int i) (fun v n => .bool (countsD v (intOf n)))).sp K T))
    (D_total : DefOk P w K mg base 1 "total" ["base", "counts"] ((cP2 (fun b c => (∃ l, b = .tuple (pN l) ∧ BaseB l) ∧ ∃ cs : List Int, c = .tuple (cs.map .int)) (fun b c => .int (MS.dotI (natsOf b) (intsOf c)))).sp K T)) :
    FnOk P w K mg base CX0 5 f fd ["base", "n", "counts"] ((cP3 (fun b n c => (∃ l, b = .tuple (pN l) ∧ BaseB l) ∧ ∃ i, n = .int i) (fun b n c => .bool (wayL (natsOf b) (intOf n) c))).sp K T) := by
  refine ok_ct (cP3 (fun b n c => (∃ l, b = .tuple (pN l) ∧ BaseB l) ∧ ∃ i, n = .int i) (fun b n c => .bool (wayL (natsOf b) (intOf n) c))) F sc_is_way rfl fun cdv A outer s H E hr => ⟨_, (pss_one (ps_ret (pe_and (pe_dcall D_is_counts hr (by rfl) (pa_cons (pv 2) (pa_cons (pe_callB (k_len (K := K) rfl) (by rfl) B.b_len (by decide +kernel) (pa_cons (pv 0) pa_nil)) pa_nil))) (pe_one (pe_cmpR (k_eqD (K := K) rfl hr.units) (pe_dcall D_total (hr.mono (by decide)) (by rfl) (pa_cons (pv 0) (pa_cons (pv 2) pa_nil))) (pv 1) (nomark _)))))), fun C xs hn hp => ?_⟩
  obtain ⟨_, _, c, rfl, ⟨l, rfl, hb⟩, n, rfl⟩ := hp
  change ST C _ [some (tN l), some (dI n), some (.d c)] [] _
  repeat' walk_at "g1"
  refine cl_p2 ⟨_, rfl⟩ ?_
  walk_at "un"
  rw [List.length_map]
  repeat' walk_at "g1"
  · rename_i hc
    obtain ⟨cs, rfl, h1, h2⟩ := countsD_iff.mp hc
    refine cl_p2 ⟨⟨l, rfl, hb⟩, cs, rfl⟩ ?_
    walk_at "un"
    repeat' walk_at "g1"
    exact ends_p3 (by unfold wayL; walk_at "un"; rw [hc]; rfl)
  · rename_i hc
    exact ends_p3 (by unfold wayL; walk_at "un"; rw [hc]; rfl)

abbrev s_check_containing : Stmt := topS 17
theorem sc_check_containing : FnScope ["one", "two", "value"] ["one", "two", "value"] (defScope s_check_containing) := ⟨rfl, rfl, rfl, by decide +kernel, rfl, by decide +kernel, by decide +kernel⟩
theorem ok_check_containing {f : Addr} {fd : FuncData} (F : Fun K "check_containing" "check_containing" s_check_containing f fd) (B : Bt mg) {cd Pt : Addr} (hc : fd.code = .ref cd) (TB : GxR.TabB base mg cd Pt) (hPt : TabOne T Pt)
    (D_is_worded : DefOk P w K mg base 1 "is_worded" ["value", "word", "length"] ((cP3 (fun v w n => (∃ m, m ≤ 60 ∧ OkD m v) ∧ (∃ x, w = .str x ∧ PyData.canLay0 (.str x) = true) ∧ ∃ k : Int, n = .int k ∧ 1 ≤ k) (fun v w n => .bool (wordD v (strOf w) (intOf n)))).sp K T))
    (D_is_kept_out : DefOk P w K mg base 6 "is_kept_out" ["base", "n", "row"] ((cP3 (fun b n c => (∃ l, b = .tuple (pN l) ∧ BaseB l) ∧ ∃ i, n = .int i) (fun b n c => .bool (keptL (natsOf b) (intOf n) c))).sp K T))
    (D_is_integer : DefOk P w K mg base 1 "is_integer" ["value"] ((cP1 (fun _ => True) (fun d => .bool (isIntD d))).sp K T))
    (D_is_way : DefOk P w K mg base 5 "is_way" ["base", "n", "counts"] ((cP3 (fun b n c => (∃ l, b = .tuple (pN l) ∧ BaseB l) ∧ ∃ i, n = .int i) (fun b n c => .bool (wayL (natsOf b) (intOf n) c))).sp K T)) :
    FnOk P w K mg base CX0 7 f fd ["one", "two", "value"] (F_cont.sp K T) := by
  refine ok_cfT F_cont F hc sc_check_containing rfl fun A outer s H E hr => ⟨_, (pss_cons (ps_if (pt_val (pe_dcall D_is_worded (hr.mono (by decide)) (by rfl) (pa_cons (pv 2) (pa_cons pe_str (pa_cons pe_int pa_nil))))) (pss_cons (ps_if (PW.pt (pw_or (pt_not (pt_val (pe_callB (k_isi (K := K) rfl) (by rfl) B.b_isinstance (by decide +kernel) (pa_cons (pe_ix (k_ix (K := K) rfl) (pv 2) pe_int (fun _ _ => rfl)) (pa_cons (pe_bltn (v := .ty "tuple") (by rfl) B.b_tuple (by decide +kernel) rfl) pa_nil))))) (pw_or1 (pt_cmpR (k_neD (K := K) rfl hr.units) (pe_callB (k_len (K := K) rfl) (by rfl) B.b_len (by decide +kernel) (pa_cons (pe_ix (k_ix (K := K) rfl) (pv 2) pe_int (fun _ _ => rfl)) pa_nil)) (pe_callB (k_len (K := K) rfl) (by rfl) B.b_len (by decide +kernel) (pa_cons (pv 1) pa_nil)) (nomark _))))) (pss_one (ps_ret pe_bl)) pss_nil)
      (pss_one (ps_ret (pe_allG (N := ["one", "member", "counts"]) (fr := ["one"]) (js := [0]) hr (by rfl) B.b_all TB rfl (genOk_by (osc := defScope s_check_containing) (XN := ["one", "two", "value"]) (by decide +kernel)) (k_zip (K := K) rfl (by rfl) B.b_zip (pa_cons (pv 1) (pa_cons (pe_ix (k_ix (K := K) rfl) (pv 2) pe_int (fun _ _ => rfl)) pa_nil))) (fun _ _ _ _ _ hr => (k_gtup (K := K) (n := 2) rfl rfl (pgs_cons (pg_name (i := 1) (show List.Nodup (["one", "member", "counts"] : List Str) by decide) rfl (by first | exact Or.inl rfl | exact Or.inr rfl)) (pgs_cons (pg_name (i := 2) (show List.Nodup (["one", "member", "counts"] : List Str) by decide) rfl (by first | exact Or.inl rfl | exact Or.inr rfl)) pgs_nil)))) (fun _ _ _ _ _ hr => (pe_dcall D_is_way hr (by rfl) (pa_cons (pv 0) (pa_cons (pv 1) (pa_cons (pv 2) pa_nil))))))))) pss_nil)
      (pss_cons (ps_if (PW.pt (pw_or (pt_not (pt_val (pe_dcall D_is_worded (hr.mono (by decide)) (by rfl) (pa_cons (pv 2) (pa_cons pe_str (pa_cons pe_int pa_nil)))))) (pw_or (pt_not (pt_val (pe_dcall D_is_integer (hr.mono (by decide)) (by rfl) (pa_cons (pe_ix (k_ix (K := K) rfl) (pv 2) pe_int (fun _ _ => rfl)) pa_nil)))) (pw_or1 (pt_cmpR (k_notIn (K := K) rfl) (pe_ix (k_ix (K := K) rfl) (pv 2) pe_int (fun _ _ => rfl)) (pv 1) (by rfl)))))) (pss_one (ps_ret pe_bl)) pss_nil)
      (pss_one (ps_ret (pe_dcall D_is_kept_out hr (by rfl) (pa_cons (pv 0) (pa_cons (pe_ix (k_ix (K := K) rfl) (pv 2) pe_int (fun _ _ => rfl)) (pa_cons (pe_ix (k_ix (K := K) rfl) (pv 2) pe_int (fun _ _ => rfl)) pa_nil)))))))), ?_⟩
  rintro ⟨l, m, v⟩
  intro hp C
  change ST C _ [some (tN l), some (tN m), some (.d v)] [] ((Ct.one 3 [tN l, tN m, .d v] ((BaseB l) ∧ (BaseB m) ∧ (∃ n, n ≤ 60 ∧ OkD n v)) (dB (contB l m v))).ends [tN l, tN m, .d v])
  obtain ⟨hb, hm, hv⟩ : (BaseB l) ∧ (BaseB m) ∧ (∃ n, n ≤ 60 ∧ OkD n v) := hp
  have hlm := hm.len
  obtain ⟨n0, hn0, hok⟩ := hv
  have hit : ∀ k : Int, 1 < k → ∀ w, wordD v w k = true → ∃ ds, v = .tuple ds ∧ ds[1]? = some (itemD v 1) := fun k hk w hw => wordD_get hk hw
  repeat' walk_at "g1"
  refine cl_p3 ⟨⟨n0, hn0, hok⟩, ⟨_, rfl, by decide +kernel⟩, _, rfl, by decide⟩ ?_
  walk_at "un"
  repeat' walk_at "g1"
  · rename_i hc
    have hc : wordD v "inside" 2 = true := hc
    obtain ⟨ds, rfl, hd⟩ := hit 2 (by decide) _ hc
    have e0 : contB l m (.tuple ds) = (isTup (itemD (.tuple ds) 1) && (decide ((tupOf (itemD (.tuple ds) 1)).length = m.length) && (m.zip (tupOf (itemD (.tuple ds) 1))).all fun p => wayL l p.1 p.2)) := if_pos hc
    have hok1 := hok.tup.tup_in (List.mem_of_getElem? hd)
    rw [e0]
    clear e0 hc
    generalize itemD (.tuple ds) 1 = c at hd hok1
    cases c with
    | tuple cs =>
      have hcl := hok1.tup_len
      refine ro_ixT (atI_n (j := 1) hd) ?_
      repeat' walk_at "g1"
      refine ro_ixT (atI_n (j := 1) hd) ?_
      repeat' walk_at "g1"
      · have hc : ¬ ((cs.length : Nat) : Int) = (pN m).length := by assumption
        rw [List.length_map] at hc
        exact ends_fB (by rw [decide_eq_false (show ¬ (tupOf (.tuple cs)).length = m.length from fun e => hc (by rw [show cs.length = m.length from e]))]; rfl)
      have hc : ((cs.length : Nat) : Int) = (pN m).length := by assumption
      rw [List.length_map] at hc
      have hcm : cs.length = m.length := by omega
      rw [show (isTup (.tuple cs) && (decide ((tupOf (.tuple cs)).length = m.length) && (m.zip (tupOf (.tuple cs))).all fun p => wayL l p.1 p.2)) = (m.zip cs).all fun p => wayL l p.1 p.2 by rw [decide_eq_true (show (tupOf (.tuple cs)).length = m.length from hcm)]; rfl]
      repeat' walk_at "g1"
      refine tj_allX (α := Nat × PyData) (l := m.zip cs) (enc := fun p => .d (.tuple [.int (p.1 : Nat), p.2])) (φ := fun p => wayL l (p.1 : Nat) p.2) hPt ?_ (fun p hp => ?_) ?_
      · refine it_zipT ?_
        repeat' walk_at "g0"
        refine ro_ixT (atI_n (j := 1) hd) ?_
        repeat' walk_at "g0"
        exact ⟨zip_nd _ _, rfl⟩
      · walk_at "gs"
        refine tg_tup2 ?_
        dsimp only [List.set]
        refine genE_go (by walk_at "ks") ?_
        repeat' walk_at "g0"
        refine cl_p3 ⟨⟨l, rfl, hb⟩, _, rfl⟩ ?_
        walk_at "un"
        exact ⟨rfl, rfl⟩
      · exact ends_f rfl
    | _ =>
      refine ro_ixT (atI_n (j := 1) hd) ?_
      repeat' walk_at "g1"
      exact ends_fB rfl
  rename_i hc
  have hc : wordD v "inside" 2 = false := hc
  have e0 : contB l m v = (wordD v "parts" 3 && (isIntD (itemD v 1) && (decide (intOf (itemD v 1) ∈ m.map fun (n : Nat) => (n : Int)) && keptL l (intOf (itemD v 1)) (itemD v 2)))) := if_neg (by rw [hc]; exact Bool.false_ne_true)
  rw [e0]
  refine cl_p3 ⟨⟨n0, hn0, hok⟩, ⟨_, rfl, by decide +kernel⟩, _, rfl, by decide⟩ ?_
  walk_at "un"
  repeat' walk_at "g1"
  · have hc2 : wordD v "parts" 3 = false := by assumption
    exact ends_fB (by rw [hc2]; rfl)
  have hc2 : wordD v "parts" 3 = true := by assumption
  obtain ⟨ds, rfl, hd⟩ := wordD_len (i := 1) (by decide) hc2
  obtain ⟨_, e3, hd2⟩ := wordD_len (i := 2) (by decide) hc2
  cases e3
  have hok1 := hok.tup.tup_in (List.mem_of_getElem? hd2)
  rw [hc2, Bool.true_and]
  clear hc hc2 e0 hit
  generalize itemD (.tuple ds) 1 = c at hd
  generalize itemD (.tuple ds) 2 = c2 at hd2 hok1
  refine ro_ixT (atI_n (j := 1) hd) ?_
  repeat' walk_at "g0"
  refine cl_p1 trivial ?_
  repeat' walk_at "g1"
  · have hc : isIntD c = false := by assumption
    exact ends_fB (by rw [hc]; rfl)
  have hc : isIntD c = true := by assumption
  obtain ⟨i, rfl⟩ := isIntD_iff.mp hc
  rw [show (isIntD (.int i) && (decide (intOf (.int i) ∈ m.map fun (n : Nat) => (n : Int)) && keptL l (intOf (.int i)) c2)) = (decide (i ∈ m.map fun (n : Nat) => (n : Int)) && keptL l i c2) from rfl]
  refine ro_ixT (atI_n (j := 1) hd) ?_
  repeat' walk_at "g0"
  refine ro_notInI (ns := m.map fun (n : Nat) => (n : Int)) (.inl (by rw [List.map_map]; rfl)) ?_
  repeat' walk_at "g1"
  · have hc : ¬ i ∈ m.map fun (n : Nat) => (n : Int) := by assumption
    exact ends_fB (by rw [decide_eq_false hc]; rfl)
  have hc : i ∈ m.map fun (n : Nat) => (n : Int) := by assumption
  rw [decide_eq_true hc, Bool.true_and]
  refine ro_ixT (atI_n (j := 1) hd) ?_
  repeat' walk_at "g0"
  refine ro_ixT (atI_n (j := 2) hd2) ?_
  repeat' walk_at "g0"
  refine cl_p3 ⟨⟨l, rfl, hb⟩, _, rfl⟩ ?_
  walk_at "un"
  exact ends_f rfl

abbrev s_u_law_is_worded : Stmt := topS 25
theorem sc_u_law_is_worded : FnScope ["value", "word", "length"] ["value", "word", "length"] (defScope s_u_law_is_worded) := ⟨rfl, rfl, rfl, by decide +kernel, rfl, by decide +kernel, by decide +kernel⟩
theorem ok_u_law_is_worded {f : Addr} {fd : FuncData} (F : Fun K "_law_is_worded" "_law_is_worded" s_u_law_is_worded f fd) (B : Bt mg) :
    FnOk P w K mg base CX0 1 f fd ["value", "word", "length"] ((cP3 (fun v w n => (∃ m, m ≤ 60 ∧ OkD m v) ∧ (∃ x, w = .str x ∧ PyData.canLay0 (.str x) = true) ∧ ∃ k : Int, n = .int k ∧ 1 ≤ k) (fun v w n => .bool (wordD v (strOf w) (intOf n)))).sp K T) := by
  refine ok_ct (cP3 (fun v w n => (∃ m, m ≤ 60 ∧ OkD m v) ∧ (∃ x, w = .str x ∧ PyData.canLay0 (.str x) = true) ∧ ∃ k : Int, n = .int k ∧ 1 ≤ k) (fun v w n => .bool (wordD v (strOf w) (intOf n)))) F sc_u_law_is_worded rfl fun cdv A outer s H E hr => ⟨_, (pss_cons (ps_if (PW.pt (pw_or (pt_not (pt_val (pe_callB (k_isi (K := K) rfl) (by rfl) B.b_isinstance (by decide +kernel) (pa_cons (pv 0) (pa_cons (pe_bltn (v := .ty "tuple") (by rfl) B.b_tuple (by decide +kernel) rfl) pa_nil))))) (pw_or1 (pt_cmpR (k_neD (K := K) rfl hr.units) (pe_callB (k_len (K := K) rfl) (by rfl) B.b_len (by decide +kernel) (pa_cons (pv 0) pa_nil)) (pv 2) (nomark _))))) (pss_one (ps_ret pe_bl)) pss_nil)
      (pss_one (ps_ret (pe_and (pe_callB (k_isi (K := K) rfl) (by rfl) B.b_isinstance (by decide +kernel) (pa_cons (pe_ix (k_ix (K := K) rfl) (pv 0) pe_int (fun _ _ => rfl)) (pa_cons (pe_bltn (v := .ty "str") (by rfl) B.b_str (by decide +kernel) rfl) pa_nil))) (pe_one (pe_cmpR (k_eqD (K := K) rfl hr.units) (pe_ix (k_ix (K := K) rfl) (pv 0) pe_int (fun _ _ => rfl)) (pv 1) (nomark _))))))), fun C xs hn hp => ?_⟩
  obtain ⟨d, _, _, rfl, ⟨m, hm, hok⟩, ⟨x, rfl, hx⟩, k, rfl, hk⟩ := hp
  change ST C _ [some (.d d), some (.d (.str x)), some (dI k)] [] _
  by_cases ht : isTup d = true
  · obtain ⟨ds, rfl⟩ := isTup_ex ht
    replace hok := hok.tup
    repeat' walk_at "g1"
    · rename_i hn
      exact ends_p3 (by
        unfold wordD intOf
        dsimp only
        rw [decide_eq_false hn]
        rfl)
    · rename_i hn
      have hz : ∃ y r, ds = y :: r := by
        cases ds with
        | nil =>
          have : ((0 : Nat) : Int) = k := hn
          omega
        | cons y r => exact ⟨y, r, rfl⟩
      obtain ⟨y, r, rfl⟩ := hz
      refine ro_ixT (d := y) (atI_n (j := 0) rfl) ?_
      repeat' walk_at "g1"
      · rename_i hc
        have hc : isStr y = true := hc
        cases y with
        | str z =>
          have hz := hok.tup_in (d := .str z) List.mem_cons_self
          refine ro_ixT (d := .str z) (atI_n (j := 0) rfl) ?_
          repeat' walk_at "g1"
          refine ro_eqN (n := m - 1) (m := 0) hz (by omega) (.str hx) (by decide) (.str _) (.str _) fun b hb => ?_
          exact ends_p3 (by
            unfold wordD intOf strOf
            dsimp only
            rw [decide_eq_true hn]
            simp only [List.head?_cons, Bool.true_and, PyData.bool.injEq]
            rw [Bool.eq_iff_iff, hb, PyData.str.injEq, beq_iff_eq])
        | _ => cases hc
      · rename_i hc
        have hc : isStr y = false := hc
        exact ends_p3 (by
          unfold wordD intOf strOf
          dsimp only
          rw [decide_eq_true hn]
          cases y <;> first | rfl | cases hc)
  · repeat' walk_at "g1"
    · exact ends_p3 (by cases d <;> first | rfl | exact absurd (by rfl) ht)
    · rename_i hc
      exact absurd hc ht

abbrev s_u_law_is_integer : Stmt := topS 20
theorem sc_u_law_is_integer : FnScope ["actual"] ["actual"] (defScope s_u_law_is_integer) := ⟨rfl, rfl, rfl, by decide +kernel, rfl, by decide +kernel, by decide +kernel⟩
theorem ok_u_law_is_integer {f : Addr} {fd : FuncData} (F : Fun K "_law_is_integer" "_law_is_integer" s_u_law_is_integer f fd) (B : Bt mg) :
    FnOk P w K mg base CX0 1 f fd ["actual"] ((cP1 (fun _ => True) (fun d => .bool (isIntD d))).sp K T) := by
  refine ok_ct (cP1 (fun _ => True) (fun d => .bool (isIntD d))) F sc_u_law_is_integer rfl fun cdv A outer s H E hr => ⟨_, (pss_one (ps_ret (pe_and (pe_callB (k_isi (K := K) rfl) (by rfl) B.b_isinstance (by decide +kernel) (pa_cons (pv 0) (pa_cons (pe_bltn (v := .ty "int") (by rfl) B.b_int (by decide +kernel) rfl) pa_nil))) (pe_one (pe_not (pe_callB (k_isi (K := K) rfl) (by rfl) B.b_isinstance (by decide +kernel) (pa_cons (pv 0) (pa_cons (pe_bltn (v := .ty "bool") (by rfl) B.b_bool (by decide +kernel) rfl) pa_nil)))))))), fun C xs hn hp => ?_⟩
  obtain ⟨d, rfl, _⟩ := hp
  change ST C _ [some (.d d)] [] _
  repeat' walk_at "g1"
  · rename_i hc
    have hc : isInt d = true := hc
    exact ends_p1 (by unfold isIntD; rw [hc]; rfl)
  · rename_i hc
    have hc : isInt d = false := hc
    exact ends_p1 (by unfold isIntD; rw [hc]; rfl)

abbrev s_u_law_is_counts : Stmt := topS 32
theorem sc_u_law_is_counts : FnScope ["value", "length", "one"] ["value", "length"] (defScope s_u_law_is_counts) := ⟨rfl, rfl, rfl, by decide +kernel, rfl, by decide +kernel, by decide +kernel⟩
theorem ok_u_law_is_counts {f : Addr} {fd : FuncData} (F : Fun K "_law_is_counts" "_law_is_counts" s_u_law_is_counts f fd) (B : Bt mg)
    (D_u_law_is_integer : DefOk P w K mg base 1 "_law_is_integer" ["actual"] ((cP1 (fun _ => True) (fun d => .bool (isIntD d))).sp K T)) :
    FnOk P w K mg base CX0 2 f fd ["value", "length"] ((cP2 (fun v n => (∃ m, Ok m v) ∧ ∃ i, n = .int i) (fun v n => .bool (countsD v (intOf n)))).sp K T) := by
  refine ok_ct (cP2 (fun v n => (∃ m, Ok m v) ∧ ∃ i, n = .int i) (fun v n => .bool (countsD v (intOf n)))) F sc_u_law_is_counts rfl fun cdv A outer s H E hr => ⟨_, (pss_cons (ps_if (PW.pt (pw_or (pt_not (pt_val (pe_callB (k_isi (K := K) rfl) (by rfl) B.b_isinstance (by decide +kernel) (pa_cons (pv 0) (pa_cons (pe_bltn (v := .ty "tuple") (by rfl) B.b_tuple (by decide +kernel) rfl) pa_nil))))) (pw_or1 (pt_cmpR (k_neD (K := K) rfl hr.units) (pe_callB (k_len (K := K) rfl) (by rfl) B.b_len (by decide +kernel) (pa_cons (pv 0) pa_nil)) (pv 1) (nomark _))))) (pss_one (ps_ret pe_bl)) pss_nil)
      (pss_one (ps_ret (pe_cmpR (k_eqD (K := K) rfl hr.units) (pe_callB (k_len (K := K) rfl) (by rfl) B.b_len (by decide +kernel) (pa_cons (pe_lc (own := [("one", 2)]) rfl sc_u_law_is_counts.nd (k_seq (K := K) rfl (pv 0)) (blkOk_by (N := ["value", "length", "one"]) (sc := defScope s_u_law_is_counts) (by decide +kernel)) (fun _ _ _ _ _ => (pg_name (i := 2) sc_u_law_is_counts.nd rfl (by first | exact Or.inl rfl | exact Or.inr rfl))) (fun _ _ _ _ _ => (pts_one (PW.pt (pw_or (pt_not (pt_val (pe_dcall D_u_law_is_integer hr (by rfl) (pa_cons (pv 2) pa_nil)))) (pw_or1 (pt_cmpR op_lt (pv 2) pe_int (nomark _))))))) (fun _ _ _ _ _ => (pv 2))) pa_nil)) pe_int (nomark _))))), fun C xs hn hp => ?_⟩
  obtain ⟨d, _, rfl, ⟨m, hok⟩, n, rfl⟩ := hp
  change ST C _ [some (.d d), some (dI n), none] [] _
  by_cases ht : isTup d = true
  · obtain ⟨ds, rfl⟩ := isTup_ex ht
    have hlen := hok.tup_len
    repeat' walk_at "g1"
    · rename_i hn
      exact ends_p2 (by
        unfold countsD intOf
        dsimp only
        rw [decide_eq_false hn]
        rfl)
    · rename_i hn
      refine tj_lcD (wok_name (List.Mem.head _)) (it_seqX ?_)
      repeat' walk_at "g1"
      refine ⟨ds, .inl rfl, PyData, ds, SV.d, (fun d => !(isIntD d && geD d)), (fun d => d), rfl, hlen, fun D acc a ha hD => ?_, ?_⟩
      · refine tg_name ?_
        dsimp only [wipeS, List.map, List.set]
        repeat' walk_at "g1"
        refine cl_p1 trivial ?_
        repeat' walk_at "g1"
        · rename_i hc
          have hc : isIntD a = false := hc
          rw [hc]
          refine ⟨rfl, rfl, fun h => ?_⟩
          repeat' walk_at "g1"
          exact ⟨rfl, rfl⟩
        · rename_i hc
          have hc : isIntD a = true := hc
          obtain ⟨i, rfl⟩ := isIntD_iff.mp hc
          repeat' walk_at "g1"
          refine ⟨rfl, ?_, fun h => ?_⟩
          · rw [Bool.eq_iff_iff]
            simp [isIntD, isInt, isBl, geD]
          · repeat' walk_at "g1"
            exact ⟨rfl, rfl⟩
      · repeat' walk_at "g1"
        exact ends_p2 (by
          unfold countsD intOf
          dsimp only
          rw [decide_eq_true hn, List.map_id', cnt_none])
  · repeat' walk_at "g1"
    · exact ends_p2 (by cases d <;> first | rfl | exact absurd (by rfl) ht)
    · rename_i hc
      exact absurd hc ht

abbrev s_u_law_keeps_out : Stmt := topS 40
theorem sc_u_law_keeps_out : FnScope ["base", "n", "row", "m", "r", "a"] ["base", "n", "row"] (defScope s_u_law_keeps_out) := ⟨rfl, rfl, rfl, by decide +kernel, rfl, by decide +kernel, by decide +kernel⟩
theorem ok_u_law_keeps_out {f : Addr} {fd : FuncData} (F : Fun K "_law_keeps_out" "_law_keeps_out" s_u_law_keeps_out f fd) (B : Bt mg)
    (D_u_law_is_counts : DefOk P w K mg base 2 "_law_is_counts" ["value", "length"] ((cP2 (fun v n => (∃ m, Ok m v) ∧ ∃ i, n = .int i) (fun v n => .bool (countsD v (intOf n)))).sp K T)) :
    FnOk P w K mg base CX0 3 f fd ["base", "n", "row"] ((cP3 (fun b n c => (∃ l, b = .tuple (pN l) ∧ BaseB l) ∧ (∃ i, n = .int i) ∧ ∃ m, Ok m c) (fun b n c => .bool (keptL (natsOf b) (intOf n) c))).sp K T) := by
  refine ok_ct (cP3 (fun b n c => (∃ l, b = .tuple (pN l) ∧ BaseB l) ∧ (∃ i, n = .int i) ∧ ∃ m, Ok m c) (fun b n c => .bool (keptL (natsOf b) (intOf n) c))) F sc_u_law_keeps_out rfl fun cdv A outer s H E hr => ⟨_, (pss_cons (ps_asg (pe_ix (k_ix (K := K) rfl) (pv 0) pe_int (fun _ _ => rfl)) (pg_name (i := 3) sc_u_law_keeps_out.nd rfl (by first | exact Or.inl rfl | exact Or.inr rfl)))
      (pss_cons (ps_if (PW.pt (pw_or (pt_not (pt_val (pe_dcall D_u_law_is_counts hr (by rfl) (pa_cons (pv 2) (pa_cons (pv 3) pa_nil))))) (pw_or (pt_cmpR (k_neD (K := K) rfl hr.units) (pe_ix (k_ix (K := K) rfl) (pv 2) pe_int (fun _ _ => rfl)) pe_int (nomark _)) (pw_or1 (pt_cmpR op_ge (pv 1) (pe_ix (k_ix (K := K) rfl) (pv 2) (pe_op op_mod (pv 1) (pv 3)) (fun _ _ => rfl)) (nomark _)))))) (pss_one (ps_ret pe_bl)) pss_nil)
      (pss_cons (ps_for PassesOwn.never rfl (pi_range1 (by rfl) B.b_range (pa_cons (pv 3) pa_nil)) (pg_name (i := 4) sc_u_law_keeps_out.nd rfl (by first | exact Or.inl rfl | exact Or.inr rfl)) (pss_one (ps_if (pt_cmpR op_gt (pe_callB (k_len (K := K) rfl) (by rfl) B.b_len (by decide +kernel) (pa_cons (pe_lc (own := [("a", 5)]) rfl sc_u_law_keeps_out.nd (k_seq (K := K) rfl (pv 0)) (blkOk_by (N := ["base", "n", "row", "m", "r", "a"]) (sc := defScope s_u_law_keeps_out) (by decide +kernel)) (fun _ _ _ _ _ => (pg_name (i := 5) sc_u_law_keeps_out.nd rfl (by first | exact Or.inl rfl | exact Or.inr rfl))) (fun _ _ _ _ _ => (pts_one (pt_cmpR op_gt (pe_ix (k_ix (K := K) rfl) (pv 2) (pe_op op_mod (pe_op (k_addA (K := K) rfl) (pv 4) (pv 5)) (pv 3)) (fun _ _ => rfl)) (pe_op (k_addA (K := K) rfl) (pe_ix (k_ix (K := K) rfl) (pv 2) (pv 4) (fun _ _ => rfl)) (pv 5)) (nomark _)))) (fun _ _ _ _ _ => (pv 5))) pa_nil)) pe_int (nomark _)) (pss_one (ps_ret pe_bl)) pss_nil)))
      (pss_one (ps_ret pe_bl))))), fun C xs hn hp => ?_⟩
  obtain ⟨_, _, c, rfl, ⟨l, rfl, hb⟩, ⟨n, rfl⟩, m, hok⟩ := hp
  change ST C _ [some (tN l), some (dI n), some (.d c), none, none, none] [] _
  have hbd := hb.bd
  have hll := hb.len
  have g1 := Int.emod_nonneg n (show (MS.hd l : Int) ≠ 0 by omega)
  have g2 := Int.emod_lt_of_pos n (show (0 : Int) < MS.hd l by omega)
  refine st_seq ?_
  repeat' walk_at "g0"
  refine ro_hd hb.b.ne ?_
  repeat' walk_at "g1"
  refine cl_p2 ⟨⟨m, hok⟩, _, rfl⟩ ?_
  walk_at "un"
  repeat' walk_at "g1"
  · rename_i hc _
    exact ends_p3 (by unfold keptL potL; walk_at "un"; rw [hc]; rfl)
  rename_i hc
  obtain ⟨cs, rfl, h1, h2⟩ := countsD_iff.mp hc
  have hat : ∀ i, i < MS.hd l → cs[i]? = some (atD (.tuple (cs.map .int)) i) := fun i hi => by
    have : cs[i]? = some (cs[i]'(by omega)) := List.getElem?_eq_getElem _
    rw [this]
    unfold atD
    rw [intsOf_map, List.getD_eq_getElem?_getD, this]
    rfl
  refine ro_ixT (atI_n (j := 0) (map_get (hat 0 (by omega)))) ?_
  repeat' walk_at "g1"
  · rename_i h0 _
    exact ends_p3 (by unfold keptL potL; walk_at "un"; rw [hc, decide_eq_false h0]; rfl)
  rename_i h0
  refine ro_ixT (atI_nat' g1 (map_get (hat _ (by omega)))) ?_
  repeat' walk_at "g1"
  · rename_i hn
    exact ends_p3 (by unfold keptL; walk_at "un"; rw [decide_eq_false (show ¬ _ < _ by omega), Bool.and_false])
  rename_i hn
  refine st_for (it_rng1 ?_)
  repeat' walk_at "g1"
  refine ⟨⟨by omega, by omega⟩, ?_⟩
  refine ⟨fun i S F => ∃ u3 u4 : Option SV, S = [some (tN l), some (dI n), some (.d (.tuple (cs.map .int))), some (dI (MS.hd l : Nat)), u3, u4] ∧ F = [] ∧ ∀ r, r < i → l.all (fun a => !decide (atD (.tuple (cs.map .int)) r + a < atD (.tuple (cs.map .int)) ((r + a) % MS.hd l))) = true, ⟨_, _, rfl, rfl, fun r hr => absurd hr (Nat.not_lt_zero _)⟩, ?_, ?_⟩
  · rintro r y S F hi ⟨u3, u4, rfl, rfl, hI⟩
    obtain ⟨hr, rfl⟩ := rg_get hi
    have hr2 : r < MS.hd l := by omega
    rw [show (0 : Int) + (r : Int) = ((r : Nat) : Int) by omega]
    repeat' walk_at "g1"
    refine tj_lcD (wok_name (List.Mem.head _)) (it_seqX ?_)
    repeat' walk_at "g1"
    refine ⟨pN l, .inl rfl, Nat, l, (fun a => dI (a : Nat)), (fun a => decide (atD (.tuple (cs.map .int)) r + (a : Nat) < atD (.tuple (cs.map .int)) ((r + a) % MS.hd l))), (fun a => .int (a : Nat)), pN_d l, by omega, fun D acc a ha hD => ?_, ?_⟩
    · have hm : (((r : Int) + (a : Int)) % (MS.hd l : Int)) = (((r + a) % MS.hd l : Nat) : Int) := by rw [Int.natCast_emod, Int.natCast_add]
      have hlt : (r + a) % MS.hd l < MS.hd l := Nat.mod_lt _ hbd.1
      refine tg_name ?_
      dsimp only [wipeS, List.map, List.set]
      repeat' walk_at "g1"
      rw [hm]
      refine ro_ixT (atI_n (map_get (hat _ hlt))) ?_
      repeat' walk_at "g1"
      refine ro_ixT (atI_n (map_get (hat r hr2))) ?_
      repeat' walk_at "g1"
      refine ⟨rfl, rfl, fun h => ?_⟩
      repeat' walk_at "g1"
      exact ⟨rfl, rfl⟩
    · repeat' walk_at "g1"
      · rename_i hc3
        refine ends_p3 (f := fun b n c => .bool (keptL (natsOf b) (intOf n) c)) ?_
        have : ((List.range (MS.hd l)).all fun r => l.all fun a => !decide (atD (.tuple (cs.map .int)) r + a < atD (.tuple (cs.map .int)) ((r + a) % MS.hd l))) = false := by
          rw [Bool.eq_false_iff]
          intro z
          have z1 := List.all_eq_true.mp z r (List.mem_range.mpr hr2)
          have e0 : (l.filter fun (a : Nat) => decide (atD (.tuple (cs.map .int)) r + (a : Nat) < atD (.tuple (cs.map .int)) ((r + a) % MS.hd l))) = [] := List.filter_eq_nil_iff.mpr fun a ha => by
            have z2 := List.all_eq_true.mp z1 a ha
            rw [Bool.not_eq_true'] at z2
            rw [z2]
            exact Bool.false_ne_true
          rw [e0] at hc3
          exact absurd hc3 (by decide)
        unfold keptL potL
        walk_at "un"
        rw [this, Bool.and_false, Bool.false_and]
      · rename_i hc3
        refine ⟨rfl, fun r' hr' => ?_⟩
        by_cases e : r' = r
        · subst e
          refine List.all_eq_true.mpr fun a ha => ?_
          rw [Bool.not_eq_true', Bool.eq_false_iff]
          intro z
          have : a ∈ l.filter fun (a : Nat) => decide (atD (.tuple (cs.map .int)) r' + (a : Nat) < atD (.tuple (cs.map .int)) ((r' + a) % MS.hd l)) := List.mem_filter.mpr ⟨ha, z⟩
          have := List.length_pos_of_mem this
          rw [List.length_map] at hc3
          omega
        · exact hI r' (by omega)
  · rintro S F ⟨u3, u4, rfl, rfl, hI⟩
    rw [rg_len] at hI
    repeat' walk_at "g1"
    exact ends_p3 (by
      unfold keptL potL
      walk_at "un"
      have : ((List.range (MS.hd l)).all fun r => l.all fun a => !decide (atD (.tuple (cs.map .int)) r + a < atD (.tuple (cs.map .int)) ((r + a) % MS.hd l))) = true := List.all_eq_true.mpr fun r hr => hI r (by have := List.mem_range.mp hr; omega)
      rw [hc, this, decide_eq_true (show _ < _ by omega)]
      rw [decide_eq_true h0]
      rfl)

abbrev s_u_law_adds_up : Stmt := topS 39
theorem sc_u_law_adds_up : FnScope ["base", "n", "counts", "k"] ["base", "n", "counts"] (defScope s_u_law_adds_up) := ⟨rfl, rfl, rfl, by decide +kernel, rfl, by decide +kernel, by decide +kernel⟩
theorem ok_u_law_adds_up {f : Addr} {fd : FuncData} (F : Fun K "_law_adds_up" "_law_adds_up" s_u_law_adds_up f fd) (B : Bt mg)
    (D_u_law_is_counts : DefOk P w K mg base 2 "_law_is_counts" ["value", "length"] ((cP2 (fun v n => (∃ m, Ok m v) ∧ ∃ i, n = .int i) (fun v n => .bool (countsD v (intOf n)))).sp K T)) :
    FnOk P w K mg base CX0 3 f fd ["base", "n", "counts"] ((cP3 (fun b n c => (∃ l, b = .tuple (pN l) ∧ BaseB l) ∧ (∃ i, n = .int i) ∧ ∃ m, Ok m c) (fun b n c => .bool (wayL (natsOf b) (intOf n) c))).sp K T) := by
  refine ok_ct (cP3 (fun b n c => (∃ l, b = .tuple (pN l) ∧ BaseB l) ∧ (∃ i, n = .int i) ∧ ∃ m, Ok m c) (fun b n c => .bool (wayL (natsOf b) (intOf n) c))) F sc_u_law_adds_up rfl fun cdv A outer s H E hr => ⟨_, (pss_cons (ps_if (pt_not (pt_val (pe_dcall D_u_law_is_counts hr (by rfl) (pa_cons (pv 2) (pa_cons (pe_callB (k_len (K := K) rfl) (by rfl) B.b_len (by decide +kernel) (pa_cons (pv 0) pa_nil)) pa_nil))))) (pss_one (ps_ret pe_bl)) pss_nil)
      (pss_one (ps_ret (pe_cmpR (k_eqD (K := K) rfl hr.units) (pe_callB (k_sum (K := K) rfl rfl) (by rfl) B.b_sum (by decide +kernel) (pa_cons (pe_lc (own := [("k", 3)]) rfl sc_u_law_adds_up.nd (pi_range1 (by rfl) B.b_range (pa_cons (pe_callB (k_len (K := K) rfl) (by rfl) B.b_len (by decide +kernel) (pa_cons (pv 0) pa_nil)) pa_nil)) (blkOk_by (N := ["base", "n", "counts", "k"]) (sc := defScope s_u_law_adds_up) (by decide +kernel)) (fun _ _ _ _ _ => (pg_name (i := 3) sc_u_law_adds_up.nd rfl (by first | exact Or.inl rfl | exact Or.inr rfl))) (fun _ _ _ _ _ => pts_nil) (fun _ _ _ _ _ => (pe_op op_mul (pe_ix (k_ix (K := K) rfl) (pv 0) (pv 3) (fun _ _ => rfl)) (pe_ix (k_ix (K := K) rfl) (pv 2) (pv 3) (fun _ _ => rfl))))) pa_nil)) (pv 1) (nomark _))))), fun C xs hn hp => ?_⟩
  obtain ⟨_, _, c, rfl, ⟨l, rfl, hb⟩, ⟨n, rfl⟩, m, hok⟩ := hp
  change ST C _ [some (tN l), some (dI n), some (.d c), none] [] _
  repeat' walk_at "g1"
  refine cl_p2 ⟨⟨m, hok⟩, _, rfl⟩ ?_
  walk_at "un"
  rw [List.length_map]
  repeat' walk_at "g1"
  · rename_i hc
    exact ends_p3 (by unfold wayL; walk_at "un"; rw [hc]; rfl)
  · rename_i hc
    obtain ⟨cs, rfl, h1, h2⟩ := countsD_iff.mp hc
    refine tj_lcD (wok_name (List.Mem.head _)) (it_rng1 ?_)
    repeat' walk_at "g1"
    rw [List.length_map]
    have hl := hb.len
    refine ⟨⟨by omega, by omega⟩, Nat, List.range l.length, (fun (k : Nat) => dI (0 + (k : Int))), (fun _ => true), (fun k => .int ((l.getD k 0 : Nat) * cs.getD k 0)), ?_, by rw [List.length_range]; omega, fun D acc k hk hD => ?_, ?_⟩
    · show rg 0 _ = _
      unfold rg
      rw [Int.toNat_natCast]
    · have hk := List.mem_range.mp hk
      have g1 : l[k]? = some l[k] := List.getElem?_eq_getElem hk
      have g2 : cs[k]? = some (cs[k]'(by omega)) := List.getElem?_eq_getElem _
      have hm := hb.le _ (List.getElem_mem hk)
      have e1 : l.getD k 0 = l[k] := by rw [List.getD_eq_getElem?_getD, g1]; rfl
      have e2 : cs.getD k 0 = cs[k]'(by omega) := by rw [List.getD_eq_getElem?_getD, g2]; rfl
      refine tg_name ?_
      dsimp only [wipeS, List.map, List.set]
      rw [show (0 : Int) + (k : Int) = ((k : Nat) : Int) by omega]
      repeat' walk_at "g1"
      refine ⟨rfl, rfl, fun h => ?_⟩
      repeat' walk_at "g1"
      refine ro_ixT (atI_nat (pN_get g1)) ?_
      repeat' walk_at "g1"
      refine ro_ixT (atI_nat (map_get g2)) ?_
      repeat' walk_at "g1"
      exact ⟨rfl, by rw [e1, e2]⟩
    · rw [fil_true]
      repeat' walk_at "g1"
      refine rc_sum (ns := (List.range l.length).map fun k => ((l.getD k 0 : Nat) : Int) * cs.getD k 0) (.inl (by rw [List.map_map]; rfl)) ?_
      rw [← dotI_range (by omega)]
      repeat' walk_at "g1"
      exact ends_p3 (by unfold wayL; walk_at "un"; rw [hc]; rfl)

abbrev s_u_law_is_containing : Stmt := topS 42
theorem sc_u_law_is_containing : FnScope ["one", "two", "value", "k"] ["one", "two", "value"] (defScope s_u_law_is_containing) := ⟨rfl, rfl, rfl, by decide +kernel, rfl, by decide +kernel, by decide +kernel⟩
theorem ok_u_law_is_containing {f : Addr} {fd : FuncData} (F : Fun K "_law_is_containing" "_law_is_containing" s_u_law_is_containing f fd) (B : Bt mg)
    (D_u_law_is_worded : DefOk P w K mg base 1 "_law_is_worded" ["value", "word", "length"] ((cP3 (fun v w n => (∃ m, m ≤ 60 ∧ OkD m v) ∧ (∃ x, w = .str x ∧ PyData.canLay0 (.str x) = true) ∧ ∃ k : Int, n = .int k ∧ 1 ≤ k) (fun v w n => .bool (wordD v (strOf w) (intOf n)))).sp K T))
    (D_u_law_keeps_out : DefOk P w K mg base 3 "_law_keeps_out" ["base", "n", "row"] ((cP3 (fun b n c => (∃ l, b = .tuple (pN l) ∧ BaseB l) ∧ (∃ i, n = .int i) ∧ ∃ m, Ok m c) (fun b n c => .bool (keptL (natsOf b) (intOf n) c))).sp K T))
    (D_u_law_is_integer : DefOk P w K mg base 1 "_law_is_integer" ["actual"] ((cP1 (fun _ => True) (fun d => .bool (isIntD d))).sp K T))
    (D_u_law_adds_up : DefOk P w K mg base 3 "_law_adds_up" ["base", "n", "counts"] ((cP3 (fun b n c => (∃ l, b = .tuple (pN l) ∧ BaseB l) ∧ (∃ i, n = .int i) ∧ ∃ m, Ok m c) (fun b n c => .bool (wayL (natsOf b) (intOf n) c))).sp K T)) :
    FnOk P w K mg base CX0 4 f fd ["one", "two", "value"] (F_cont.sp K T) := by
  refine ok_cf F_cont F sc_u_law_is_containing rfl fun cdv A outer s H E hr => ⟨_, (pss_cons (ps_if (pt_val (pe_dcall D_u_law_is_worded (hr.mono (by decide)) (by rfl) (pa_cons (pv 2) (pa_cons pe_str (pa_cons pe_int pa_nil))))) (pss_cons (ps_if (PW.pt (pw_or (pt_not (pt_val (pe_callB (k_isi (K := K) rfl) (by rfl) B.b_isinstance (by decide +kernel) (pa_cons (pe_ix (k_ix (K := K) rfl) (pv 2) pe_int (fun _ _ => rfl)) (pa_cons (pe_bltn (v := .ty "tuple") (by rfl) B.b_tuple (by decide +kernel) rfl) pa_nil))))) (pw_or1 (pt_cmpR (k_neD (K := K) rfl hr.units) (pe_callB (k_len (K := K) rfl) (by rfl) B.b_len (by decide +kernel) (pa_cons (pe_ix (k_ix (K := K) rfl) (pv 2) pe_int (fun _ _ => rfl)) pa_nil)) (pe_callB (k_len (K := K) rfl) (by rfl) B.b_len (by decide +kernel) (pa_cons (pv 1) pa_nil)) (nomark _))))) (pss_one (ps_ret pe_bl)) pss_nil)
      (pss_one (ps_ret (pe_cmpR (k_eqD (K := K) rfl hr.units) (pe_callB (k_len (K := K) rfl) (by rfl) B.b_len (by decide +kernel) (pa_cons (pe_lc (own := [("k", 3)]) rfl sc_u_law_is_containing.nd (pi_range1 (by rfl) B.b_range (pa_cons (pe_callB (k_len (K := K) rfl) (by rfl) B.b_len (by decide +kernel) (pa_cons (pv 1) pa_nil)) pa_nil)) (blkOk_by (N := ["one", "two", "value", "k"]) (sc := defScope s_u_law_is_containing) (by decide +kernel)) (fun _ _ _ _ _ => (pg_name (i := 3) sc_u_law_is_containing.nd rfl (by first | exact Or.inl rfl | exact Or.inr rfl))) (fun _ _ _ _ _ => (pts_one (pt_not (pt_val (pe_dcall D_u_law_adds_up hr (by rfl) (pa_cons (pv 0) (pa_cons (pe_ix (k_ix (K := K) rfl) (pv 1) (pv 3) (fun _ _ => rfl)) (pa_cons (pe_ix (k_ix (K := K) rfl) (pe_ix (k_ix (K := K) rfl) (pv 2) pe_int (fun _ _ => rfl)) (pv 3) (fun _ _ => rfl)) pa_nil)))))))) (fun _ _ _ _ _ => (pv 3))) pa_nil)) pe_int (nomark _))))) pss_nil)
      (pss_cons (ps_if (PW.pt (pw_or (pt_not (pt_val (pe_dcall D_u_law_is_worded (hr.mono (by decide)) (by rfl) (pa_cons (pv 2) (pa_cons pe_str (pa_cons pe_int pa_nil)))))) (pw_or (pt_not (pt_val (pe_dcall D_u_law_is_integer (hr.mono (by decide)) (by rfl) (pa_cons (pe_ix (k_ix (K := K) rfl) (pv 2) pe_int (fun _ _ => rfl)) pa_nil)))) (pw_or1 (pt_cmpR (k_notIn (K := K) rfl) (pe_ix (k_ix (K := K) rfl) (pv 2) pe_int (fun _ _ => rfl)) (pv 1) (by rfl)))))) (pss_one (ps_ret pe_bl)) pss_nil)
      (pss_one (ps_ret (pe_dcall D_u_law_keeps_out hr (by rfl) (pa_cons (pv 0) (pa_cons (pe_ix (k_ix (K := K) rfl) (pv 2) pe_int (fun _ _ => rfl)) (pa_cons (pe_ix (k_ix (K := K) rfl) (pv 2) pe_int (fun _ _ => rfl)) pa_nil)))))))), ?_⟩
  rintro ⟨l, m, v⟩
  intro hp C
  change ST C _ [some (tN l), some (tN m), some (.d v), none] [] ((Ct.one 3 [tN l, tN m, .d v] ((BaseB l) ∧ (BaseB m) ∧ (∃ n, n ≤ 60 ∧ OkD n v)) (dB (contB l m v))).ends [tN l, tN m, .d v])
  obtain ⟨hb, hm, hv⟩ : (BaseB l) ∧ (BaseB m) ∧ (∃ n, n ≤ 60 ∧ OkD n v) := hp
  have hlm := hm.len
  obtain ⟨n0, hn0, hok⟩ := hv
  have hit : ∀ k : Int, 1 < k → ∀ w, wordD v w k = true → ∃ ds, v = .tuple ds ∧ ds[1]? = some (itemD v 1) := fun k hk w hw => wordD_get hk hw
  repeat' walk_at "g1"
  refine cl_p3 ⟨⟨n0, hn0, hok⟩, ⟨_, rfl, by decide +kernel⟩, _, rfl, by decide⟩ ?_
  walk_at "un"
  repeat' walk_at "g1"
  · rename_i hc
    have hc : wordD v "inside" 2 = true := hc
    obtain ⟨ds, rfl, hd⟩ := hit 2 (by decide) _ hc
    have e0 : contB l m (.tuple ds) = (isTup (itemD (.tuple ds) 1) && (decide ((tupOf (itemD (.tuple ds) 1)).length = m.length) && (m.zip (tupOf (itemD (.tuple ds) 1))).all fun p => wayL l p.1 p.2)) := if_pos hc
    have hok1 := hok.tup.tup_in (List.mem_of_getElem? hd)
    rw [e0]
    clear e0 hc
    generalize itemD (.tuple ds) 1 = c at hd hok1
    cases c with
    | tuple cs =>
      have hcl := hok1.tup_len
      refine ro_ixT (atI_n (j := 1) hd) ?_
      repeat' walk_at "g1"
      refine ro_ixT (atI_n (j := 1) hd) ?_
      repeat' walk_at "g1"
      · have hc : ¬ ((cs.length : Nat) : Int) = (pN m).length := by assumption
        rw [List.length_map] at hc
        exact ends_fB (by rw [decide_eq_false (show ¬ (tupOf (.tuple cs)).length = m.length from fun e => hc (by rw [show cs.length = m.length from e]))]; rfl)
      have hc : ((cs.length : Nat) : Int) = (pN m).length := by assumption
      rw [List.length_map] at hc
      have hcm : cs.length = m.length := by omega
      rw [show (isTup (.tuple cs) && (decide ((tupOf (.tuple cs)).length = m.length) && (m.zip (tupOf (.tuple cs))).all fun p => wayL l p.1 p.2)) = (m.zip cs).all fun p => wayL l p.1 p.2 by rw [decide_eq_true (show (tupOf (.tuple cs)).length = m.length from hcm)]; rfl]
      repeat' walk_at "g1"
      refine tj_lcX (l := List.range m.length) (enc := fun k => dI (k : Nat)) (bb := fun k => !wayL l (m.getD k 0 : Nat) (cs.getD k .none)) (f := fun k => .int (k : Nat)) (wok_name (by simp)) ?_ (by unfold Lng; rw [List.length_range]; omega) (turn_rng fun k hk => ?_) ?_
      · repeat' walk_at "e1"
      · intro D acc hD
        refine tg_name ?_
        dsimp only [wipeS, List.map, List.set]
        refine lcT_go ?_ fun _ => ?_
        · refine tb_notE (tb_BE ?_ ⟨rfl, rfl⟩) ⟨rfl, rfl⟩
          repeat' walk_at "g0"
          refine ro_ixNk hk ?_
          repeat' walk_at "g0"
          refine ro_ixT (atI_n (j := 1) hd) ?_
          repeat' walk_at "g0"
          refine ro_ixT (d := cs.getD k .none) (atI_n (getD_some (by omega))) ?_
          repeat' walk_at "g0"
          refine cl_p3 ⟨⟨l, rfl, hb⟩, ⟨_, rfl⟩, _, hok1.tup_in (getD_in (by omega))⟩ ?_
          walk_at "un"
          exact ⟨rfl, rfl⟩
        · refine tj_var rfl ?_
          exact ⟨rfl, rfl⟩
      · repeat' walk_at "g0"
        refine ends_fB ?_
        rw [List.length_map, beq_dec, none_all, zip_all hcm fun a c => wayL l (a : Nat) c]
    | _ =>
      refine ro_ixT (atI_n (j := 1) hd) ?_
      repeat' walk_at "g1"
      exact ends_fB rfl
  rename_i hc
  have hc : wordD v "inside" 2 = false := hc
  have e0 : contB l m v = (wordD v "parts" 3 && (isIntD (itemD v 1) && (decide (intOf (itemD v 1) ∈ m.map fun (n : Nat) => (n : Int)) && keptL l (intOf (itemD v 1)) (itemD v 2)))) := if_neg (by rw [hc]; exact Bool.false_ne_true)
  rw [e0]
  refine cl_p3 ⟨⟨n0, hn0, hok⟩, ⟨_, rfl, by decide +kernel⟩, _, rfl, by decide⟩ ?_
  walk_at "un"
  repeat' walk_at "g1"
  · have hc2 : wordD v "parts" 3 = false := by assumption
    exact ends_fB (by rw [hc2]; rfl)
  have hc2 : wordD v "parts" 3 = true := by assumption
  obtain ⟨ds, rfl, hd⟩ := wordD_len (i := 1) (by decide) hc2
  obtain ⟨_, e3, hd2⟩ := wordD_len (i := 2) (by decide) hc2
  cases e3
  have hok1 := hok.tup.tup_in (List.mem_of_getElem? hd2)
  rw [hc2, Bool.true_and]
  clear hc hc2 e0 hit
  generalize itemD (.tuple ds) 1 = c at hd
  generalize itemD (.tuple ds) 2 = c2 at hd2 hok1
  refine ro_ixT (atI_n (j := 1) hd) ?_
  repeat' walk_at "g0"
  refine cl_p1 trivial ?_
  repeat' walk_at "g1"
  · have hc : isIntD c = false := by assumption
    exact ends_fB (by rw [hc]; rfl)
  have hc : isIntD c = true := by assumption
  obtain ⟨i, rfl⟩ := isIntD_iff.mp hc
  rw [show (isIntD (.int i) && (decide (intOf (.int i) ∈ m.map fun (n : Nat) => (n : Int)) && keptL l (intOf (.int i)) c2)) = (decide (i ∈ m.map fun (n : Nat) => (n : Int)) && keptL l i c2) from rfl]
  refine ro_ixT (atI_n (j := 1) hd) ?_
  repeat' walk_at "g0"
  refine ro_notInI (ns := m.map fun (n : Nat) => (n : Int)) (.inl (by rw [List.map_map]; rfl)) ?_
  repeat' walk_at "g1"
  · have hc : ¬ i ∈ m.map fun (n : Nat) => (n : Int) := by assumption
    exact ends_fB (by rw [decide_eq_false hc]; rfl)
  have hc : i ∈ m.map fun (n : Nat) => (n : Int) := by assumption
  rw [decide_eq_true hc, Bool.true_and]
  refine ro_ixT (atI_n (j := 1) hd) ?_
  repeat' walk_at "g0"
  refine ro_ixT (atI_n (j := 2) hd2) ?_
  repeat' walk_at "g0"
  refine cl_p3 ⟨⟨l, rfl, hb⟩, ⟨_, rfl⟩, _, hok1⟩ ?_
  walk_at "un"
  exact ends_f rfl

abbrev s_law : Stmt := topS 44
theorem sc_law : FnScope ["script", "pool", "one", "two", "row", "a", "tried", "k", "value", "seen"] ["script"] (defScope s_law) := ⟨rfl, rfl, rfl, by decide +kernel, rfl, by decide +kernel, by decide +kernel⟩
theorem ok_law {f : Addr} {fd : FuncData} (F : Fun K "law" "law" s_law f fd) (B : Bt mg)
    (D_u_law_pool : DefOk P w K mg base 1 "_law_pool" ["script"] ((c_pool).sp K T))
    (D_u_law_two : DefOk P w K mg base 4 "_law_two" ["pool"] ((c_two).sp K T))
    (D_u_law_row : DefOk P w K mg base 2 "_law_row" ["base"] ((_root_.G.F_least_row).sp K T))
    (D_u_law_bent : DefOk P w K mg base 5 "_law_bent" ["pool", "paper", "many"] ((c_bent 3).sp K T))
    (D_containing_paper : DefOk P w K mg base 5 "containing_paper" ["one", "two"] ((c_cpaper).sp K T))
    (D_u_law_pick : DefOk P w K mg base 3 "_law_pick" ["pool", "items"] ((c_pick).sp K T))
    (D_u_law_same : DefOk P w K mg base 3 "_law_same" ["actual", "due"] ((c_same 3).sp K T))
    (D_check_containing : DefOk P w K mg base 7 "check_containing" ["one", "two", "value"] (_root_.G.F_cont.sp K T))
    (D_u_law_is_containing : DefOk P w K mg base 4 "_law_is_containing" ["one", "two", "value"] (_root_.G.F_cont.sp K T))
    (D_u_law_draw : DefOk P w K mg base 2 "_law_draw" ["pool", "many"] ((c_draw).sp K T)) :
    FnOkG P w K mg base CX0 8 f fd ["script"] ((c_law).sp K T) := by
  refine ok_ctG (c_law) F sc_law rfl fun cdv A outer s H E hcd hgd hr => ⟨_, (pss_cons (ps_asg (pe_dcall D_u_law_pool (hr.mono (by decide)) (by rfl) (pa_cons (pv 0) pa_nil)) (pg_name (i := 1) sc_law.nd rfl (by first | exact Or.inl rfl | exact Or.inr rfl)))
      (pss_cons (ps_asg (pe_dcall D_u_law_two (hr.mono (by decide)) (by rfl) (pa_cons (pv 1) pa_nil)) (k_gtup (K := K) (n := 2) rfl rfl (pgs_cons (pg_name (i := 2) sc_law.nd rfl (by first | exact Or.inl rfl | exact Or.inr rfl)) (pgs_cons (pg_name (i := 3) sc_law.nd rfl (by first | exact Or.inl rfl | exact Or.inr rfl)) pgs_nil))))
      (pss_cons (ps_asg (pe_dcall D_u_law_row (hr.mono (by decide)) (by rfl) (pa_cons (pv 2) pa_nil)) (pg_name (i := 4) sc_law.nd rfl (by first | exact Or.inl rfl | exact Or.inr rfl)))
      (pss_cons (ps_asg (pe_op (k_addA (K := K) rfl) (pe_op (k_addA (K := K) rfl) (pe_dcall D_u_law_bent (hr.mono (by decide)) (by rfl) (pa_cons (pv 1) (pa_cons (pe_dcall D_containing_paper (hr.mono (by decide)) (by rfl) (pa_cons (pv 2) (pa_cons (pv 3) pa_nil))) (pa_cons pe_int pa_nil)))) (pe_lc (own := [("a", 5)]) rfl sc_law.nd (k_seq (K := K) rfl (pe_op (k_addA (K := K) rfl) (pv 3) (pv 2))) (blkOk_by (N := ["script", "pool", "one", "two", "row", "a", "tried", "k", "value", "seen"]) (sc := defScope s_law) (by decide +kernel)) (fun _ _ _ _ _ => (pg_name (i := 5) sc_law.nd rfl (by first | exact Or.inl rfl | exact Or.inr rfl))) (fun _ _ _ _ _ => pts_nil) (fun _ _ _ _ _ => (pe_tup (pa_cons pe_str (pa_cons (pv 5) (pa_cons (pv 4) pa_nil))))))) (pe_lst (pa_cons (pe_tup (pa_cons pe_str (pa_cons pe_bl (pa_cons (pv 4) pa_nil)))) (pa_cons (pe_tup (pa_cons pe_str (pa_cons (pe_tup pa_nil) pa_nil))) (pa_cons (pe_tup (pa_cons pe_str (pa_cons (pe_ix (k_ix (K := K) rfl) (pv 3) pe_int (fun _ _ => rfl)) (pa_cons (pe_op (k_repT (K := K) rfl) (pe_tup (pa_cons pe_int pa_nil)) (pe_ix (k_ix (K := K) rfl) (pv 2) pe_int (fun _ _ => rfl))) pa_nil)))) pa_nil))))) (pg_name (i := 6) sc_law.nd rfl (by first | exact Or.inl rfl | exact Or.inr rfl)))
      (pss_cons (ps_for PassesOwn.never rfl (pi_range1 (by rfl) B.b_range (pa_cons pe_int pa_nil)) (pg_name (i := 7) sc_law.nd rfl (by first | exact Or.inl rfl | exact Or.inr rfl)) (pss_one (ps_expr (k_bm (K := K) rfl (pe_bm PySem.F.plainAttrs_list PySem.F.slot_list_append PySem.F.type_list_append mt_append (pv 6) (pa_cons (pe_tup (pa_cons pe_str (pa_cons (pe_dcall D_u_law_pick (hr.mono (by decide)) (by rfl) (pa_cons (pv 1) (pa_cons (pv 3) pa_nil))) (pa_cons (pe_callTy (k_tuple (K := K) rfl) (by rfl) B.b_tuple (by decide +kernel) (pa_cons (pe_lc (own := [("a", 5)]) rfl sc_law.nd (k_seq (K := K) rfl (pv 4)) (blkOk_by (N := ["script", "pool", "one", "two", "row", "a", "tried", "k", "value", "seen"]) (sc := defScope s_law) (by decide +kernel)) (fun _ _ _ _ _ => (pg_name (i := 5) sc_law.nd rfl (by first | exact Or.inl rfl | exact Or.inr rfl))) (fun _ _ _ _ _ => pts_nil) (fun _ _ _ _ _ => (pe_callB (call_max2 rfl) (by rfl) B.b_max (by decide +kernel) (pa_cons pe_int (pa_cons (pe_op op_sub (pv 5) (pe_dcall D_u_law_draw (hr.mono (by decide)) (by rfl) (pa_cons (pv 1) (pa_cons pe_int pa_nil)))) pa_nil))))) pa_nil)) pa_nil)))) pa_nil))))))
      (pss_cons (ps_for PassesOwn.never rfl (k_seq (K := K) rfl (pv 6)) (pg_name (i := 8) sc_law.nd rfl (by first | exact Or.inl rfl | exact Or.inr rfl)) (pss_cons (ps_asg (pe_callB (k_repr (K := K) rfl hgd hr) (by rfl) B.b_repr (by decide +kernel) (pa_cons (pv 8) pa_nil)) (pg_name (i := 9) sc_law.nd rfl (by first | exact Or.inl rfl | exact Or.inr rfl)))
      (pss_one (ps_if (PW.pt (pw_or (pt_not (pt_val (pe_dcall D_u_law_same (hr.mono (by decide)) (by rfl) (pa_cons (pe_dcall D_check_containing hr (by rfl) (pa_cons (pv 2) (pa_cons (pv 3) (pa_cons (pv 8) pa_nil)))) (pa_cons (pe_dcall D_u_law_is_containing (hr.mono (by decide)) (by rfl) (pa_cons (pv 2) (pa_cons (pv 3) (pa_cons (pv 8) pa_nil)))) pa_nil))))) (pw_or1 (pt_cmpR op_ne (pe_callB (k_repr (K := K) rfl hgd hr) (by rfl) B.b_repr (by decide +kernel) (pa_cons (pv 8) pa_nil)) (pv 9) (nomark _))))) (pss_one (ps_ret pe_bl)) pss_nil))))
      (pss_one (ps_ret pe_bl)))))))), fun C xs hn hp => ?_⟩
  obtain ⟨ns, rfl⟩ := hp
  change ST C _ [some (.d (.list (ns.map .int))), none, none, none, none, none, none, none, none, none] [] _
  repeat' walk_at "g1"
  refine cl_ct rfl ⟨ns, rfl⟩ ?_
  rintro y F' ⟨pp, mo, rfl, hpool, rfl⟩ _
  dsimp only [List.cons_append, List.nil_append]
  repeat' walk_at "g1"
  refine cl_two hpool fun l1 l2 mo h1 h2 hmt hpool => ?_
  refine tg_tup2 ?_
  dsimp only [List.set]
  have hb1 := h1.B
  have hb2 := h2.B
  have hl1 := h1.len
  have hl2 := h2.len
  have hle1 := h1.le
  have hle2 := h2.le
  have hd1 := h1.hd
  have hp1 := hb1.b.hd_pos
  have hr := rowL_ok hb1.b
  have hrl := hr.1
  have hrb := RowN.bd hb1 hr
  have hrow60 : ∀ i ∈ (rowL l1).map (fun (n : Nat) => (n : Int)), i.natAbs < 2 ^ 60 := fun i hi => by
    obtain ⟨v, hv, rfl⟩ := List.mem_map.mp hi
    have := hrb v hv
    omega
  repeat' walk_at "g1"
  refine cl_f1 hb1 ?_
  repeat' walk_at "g1"
  refine cl_ct rfl ⟨l1, l2, rfl, hb1, hb2⟩ ?_
  rintro y F' ⟨rfl, d, rfl, hpap⟩ _
  have hpap := hpap _ _ rfl
  obtain ⟨hpl, htc⟩ := cpaper_pl h1 h2 hpap
  obtain ⟨w, r, rfl, _, _⟩ := hpap.word
  dsimp only [List.nil_append]
  repeat' walk_at "g1"
  refine cl_ctb1 (c := c_bent 3) rfl ⟨hpool, _, r, 18, rfl, hpl, htc, by decide⟩ ?_
  rintro y mo ⟨hpool, bs, rfl, hbl, hbs⟩
  repeat' walk_at "g2"
  refine tj_lcY (l := l2 ++ l1) (enc := fun a => dI (a : Nat)) (f := fun a => .tuple [.str "parts", .int (a : Nat), .tuple (pN (rowL l1))]) (wok_name (by simp)) ?_ (by unfold Lng; rw [List.length_append]; omega) (fun a ha => ?_) ?_
  · refine it_seqE ?_
    repeat' walk_at "g0"
    refine ro_addT (by rw [List.length_map, List.length_map]; omega) ?_
    rw [show pN l2 ++ pN l1 = pN (l2 ++ l1) from List.map_append.symm]
    repeat' walk_at "e1"
  · intro D acc hD
    repeat' walk_at "e1"
  repeat' walk_at "g2"
  refine ro_addL (.inl rfl) (.inl rfl) (by rw [List.length_map, List.length_append]; omega) ?_
  repeat' walk_at "g2"
  refine ro_hd hb2.b.ne ?_
  repeat' walk_at "g2"
  refine ro_hd hb1.b.ne ?_
  refine ro_repTD hp1 (by omega) (by simp) (by decide) ?_
  repeat' walk_at "g2"
  refine ro_addLO (.inl rfl) (.inl rfl) (by rw [List.length_append, List.length_map, List.length_append]; show _ + 3 ≤ _; omega) fun pt hpt => ?_
  have hppt : pp ≠ pt := fun e => hpt (by rw [e]; exact List.mem_cons_self)
  refine tg_name ?_
  dsimp only [List.set]
  have hz : ∀ n : Nat, (List.replicate n [PyData.int 0]).flatten = (List.replicate n (0 : Int)).map PyData.int := fun n => by
    induction n with
    | zero => rfl
    | succ n ih => rw [List.replicate_succ, List.flatten_cons, ih, List.replicate_succ, List.map_cons]; rfl
  repeat' walk_at "g1"
  refine st_for (it_rng1 ?_)
  repeat' walk_at "g1"
  refine ⟨by decide, ?_⟩
  refine ⟨fun j S F => ∃ (mo : MO) (ts : List PyData) (u5 u7 : Option SV), S = [some (.d (.list (ns.map .int))), some (.m pp), some (tN l1), some (tN l2), some (tN (rowL l1)), u5, some (.m pt), u7, none, none] ∧ F = [(pt, .lst (ts.map .d)), (pp, mo)] ∧ isPool mo ∧ ts.length ≤ 3000 + j ∧ ∀ d ∈ ts, Odd 50 1000000 d, ⟨mo, _, _, _, rfl, rfl, hpool, by rw [List.length_append, List.length_append, List.length_map, List.length_append]; show _ + 3 ≤ _; omega, fun d hd => ?_⟩, ?_, ?_⟩
  · rcases List.mem_append.mp hd with hd | hd
    · rcases List.mem_append.mp hd with hd | hd
      · exact hbs d hd
      · obtain ⟨a, ha, rfl⟩ := List.mem_map.mp hd
        have ha2 : a ≤ 145 := (List.mem_append.mp ha).elim (hle2 a) (hle1 a)
        rw [pN_ints]
        exact odd_parts (by omega) hrow60 (by rw [List.length_map]; omega)
    · simp only [List.mem_cons, List.not_mem_nil, or_false] at hd
      rcases hd with rfl | rfl | rfl
      · rw [pN_ints]
        refine .inl ((nice_tup (n := 1) (t := 5000) (by show 3 < _; decide) (fun x hx => ?_) ?_).mono (by decide) (by decide))
        · simp only [List.mem_cons, List.not_mem_nil, or_false] at hx
          rcases hx with rfl | rfl | rfl
          · exact ⟨.str (by decide +kernel), by simp [PyData.showable]⟩
          · exact ⟨.bl, by simp [PyData.showable]⟩
          · exact (pl_ints (n := 0) hrow60 (by rw [List.length_map]; omega)).ok
        · have h5 := tc_ints hrow60
          have h6 : tc (.str "parts") ≤ 100 := by decide +kernel
          rw [List.length_map] at h5
          rw [tcs, tcs, tcs, tcs, show tc (.bool true) = 5 by rw [tc]]
          omega
      · exact odd_in
      · rw [hz]
        refine odd_parts (by have := hle2 _ (hd_mem hb2.b.ne); omega) (fun i hi => ?_) (by rw [List.length_replicate]; omega)
        cases (List.mem_replicate.mp hi).2
        decide
  · rintro j y S F hj ⟨mo, ts, u5, u7, rfl, rfl, hpool, htl, hts⟩
    obtain ⟨hj2, rfl⟩ := rg_get hj
    have hj2 : j < 6 := hj2
    refine tg_name ?_
    dsimp only [List.set]
    refine st_nxsub ?_
    repeat' walk_at "g1"
    refine cl_ctb2 (c := c_pick) hppt rfl ⟨hpool, _, .inr rfl, fun e => hb2.b.ne (List.map_eq_nil_iff.mp e), by rw [List.length_map]; omega⟩ ?_
    rintro y mo ⟨hpool, pd, rfl, hpd⟩
    obtain ⟨pa, hpa, rfl⟩ := List.mem_map.mp (hpd _ (.inr rfl))
    have hpa2 := hle2 pa hpa
    repeat' walk_at "g1"
    refine tj_lc (wok_name (by simp)) (it_seqX ?_)
    repeat' walk_at "g1"
    refine ⟨pN (rowL l1), .inl rfl, fun D hD => ⟨fun i acc F' => ∃ (ms : List Int) (mo : MO), acc = (ms.map .int).map .d ∧ ms.length = i ∧ (∀ m ∈ ms, 0 ≤ m ∧ m ≤ 60000) ∧ F' = [(pt, .lst (ts.map .d)), (pp, mo)] ∧ isPool mo, ⟨[], mo, rfl, rfl, (fun _ h => nomatch h), rfl, hpool⟩, ?_, ?_⟩⟩
    · rintro i y acc F' hi ⟨ms, mo, rfl, hml, hmb, rfl, hpool⟩
      have hDp : pp ≠ D := fun z => hD (by subst z; exact List.mem_cons_of_mem _ List.mem_cons_self)
      rw [pN_d, List.getElem?_map] at hi
      obtain ⟨a, ha, rfl⟩ := Option.map_eq_some_iff.mp hi
      have hil := (List.getElem?_eq_some_iff.mp ha).1
      have hab := hrb a (List.mem_of_getElem? ha)
      refine tg_name ?_
      dsimp only [wipeS, List.map, List.set]
      repeat' walk_at "g1"
      refine cl_draw (List.mem_cons_of_mem _ (List.mem_cons_of_mem _ List.mem_cons_self)) hpool (by omega) fun w mo hw0 hw1 hpool => ?_
      rw [setF_three hDp hppt]
      repeat' walk_at "g1"
      refine rc_max2 ?_
      obtain ⟨m, hm, hm1, hm2⟩ : ∃ m : Int, (if (a : Int) - w > 0 then (a : Int) - w else 0) = m ∧ 0 ≤ m ∧ m ≤ 60000 := ⟨_, rfl, by split <;> omega, by split <;> omega⟩
      rw [hm]
      refine ⟨_, rfl, by rw [List.length_map, List.length_map]; omega, ms ++ [m], mo, by rw [List.map_append, List.map_append]; rfl, by rw [List.length_append, hml]; rfl, fun x hx => ?_, rfl, hpool⟩
      rcases List.mem_append.mp hx with hx | hx
      · exact hmb x hx
      · cases List.mem_singleton.mp hx
        exact ⟨hm1, hm2⟩
    · rintro acc F' ⟨ms, mo, rfl, hml, hmb, rfl, hpool⟩
      rw [List.length_map, List.length_map] at hml
      repeat' walk_at "g1"
      refine rc_tupleM (ds := ms.map .int) (List.Mem.head _) ?_
      have hptD : pt ≠ D := fun e => hD (by rw [← e]; exact List.mem_cons_self)
      repeat' walk_at "g1"
      refine app_go2 (xs := ts.map .d) (List.mem_cons_of_mem _ List.mem_cons_self) (by rw [List.length_map]; omega) ?_
      rw [setF_mid hptD hppt, map_snoc]
      refine ⟨[(pt, _), (pp, mo)], List.Sublist.cons _ (List.Sublist.refl _), ?_⟩
      refine ⟨mo, _, _, _, rfl, rfl, hpool, by rw [List.length_append]; show _ + 1 ≤ _; omega, fun d hd => ?_⟩
      rcases List.mem_append.mp hd with hd | hd
      · exact hts d hd
      · cases List.mem_singleton.mp hd
        exact odd_parts (by omega) (fun i hi => by have := hmb i hi; omega) (by omega)
  · rintro S F ⟨mo, ts, u5, u7, rfl, rfl, hpool, htl, hts⟩
    refine st_frz (i := 6) rfl ?_
    dsimp only [List.set]
    refine st_seq (st_for (it_seqX ?_))
    repeat' walk_at "g1"
    refine ⟨_, .inr rfl, ?_⟩
    refine ⟨fun j S F => ∃ (u8 u9 : Option SV), S = [some (.d (.list (ns.map .int))), some (.m pp), some (tN l1), some (tN l2), some (tN (rowL l1)), u5, some (.d (.list ts)), u7, u8, u9] ∧ F = [(pp, mo)], ⟨_, _, rfl, rfl⟩, ?_, ?_⟩
    · rintro j y S F hj ⟨u8, u9, rfl, rfl⟩
      rw [List.getElem?_map] at hj
      obtain ⟨d, hd, rfl⟩ := Option.map_eq_some_iff.mp hj
      have hod := hts d (List.mem_of_getElem? hd)
      have ho := hod.mono (m := 60) (u := 16000000) (by decide) (by decide)
      repeat' walk_at "g1"
      refine rc_repr ho ?_
      repeat' walk_at "g1"
      refine cl_f3 ⟨hb1, hb2, 60, Nat.le_refl _, ho.okD⟩ ?_
      repeat' walk_at "g1"
      refine cl_f3 ⟨hb1, hb2, 60, Nat.le_refl _, ho.okD⟩ ?_
      repeat' walk_at "g1"
      refine cl_same_yes rfl (k := 2) .bl (by decide) (by decide) ?_
      repeat' walk_at "g1"
      refine rc_repr ho ?_
      repeat' walk_at "g1"
    · rintro S F ⟨u8, u9, rfl, rfl⟩
      repeat' walk_at "g1"
      exact ends_of ⟨rfl, rfl⟩

end
theorem all_mk {l : PySem.W.OpenLaw} {w : World} {K : PySem.W.Frag} {h : Heap} {mg : Str → Option Value} {fa : Addr} {cSums : Addr} {c_containing_paper P_containing_paper c_is_row P_is_row c_is_counts P_is_counts c_check_containing P_check_containing : Addr} {q : Program} (tq : TabOf q K h) (X : K.In h) (G : h.Ns mainGlobals mg) (hfa : mg "law" = some (.ref fa)) (B : Bt mg)
    (h_Sums : ClsAt K "Sums" cSums) (n_Sums_base : NoAttr K cSums "base") (n_Sums_by : NoAttr K cSums "by") (n_Sums_row : NoAttr K cSums "row") (h_u_law_pool : FnAt K "_law_pool" s_u_law_pool) (h_u_law_spread : FnAt K "_law_spread" s_u_law_spread) (h_u_law_draw : FnAt K "_law_draw" s_u_law_draw) (h_u_law_sums : FnAt K "_law_sums" s_u_law_sums) (h_u_law_base_of : FnAt K "_law_base_of" s_u_law_base_of) (h_u_law_common : FnAt K "_law_common" s_u_law_common) (h_u_law_gcd : FnAt K "_law_gcd" s_u_law_gcd) (h_u_law_base : FnAt K "_law_base" s_u_law_base) (h_u_law_two : FnAt K "_law_two" s_u_law_two) (h_u_law_bound : FnAt K "_law_bound" s_u_law_bound) (h_u_law_row : FnAt K "_law_row" s_u_law_row) (h_u_law_spots : FnAt K "_law_spots" s_u_law_spots) (h_u_law_pick : FnAt K "_law_pick" s_u_law_pick) (h_u_law_odd_values : FnAt K "_law_odd_values" s_u_law_odd_values) (h_u_law_spot_put : FnAt K "_law_spot_put" s_u_law_spot_put) (h_u_law_bent_spot : FnAt K "_law_bent_spot" s_u_law_bent_spot) (h_u_law_spot : FnAt K "_law_spot" s_u_law_spot) (h_u_law_bent : FnAt K "_law_bent" s_u_law_bent) (h_Sums_has : MethAt K cSums "has" "Sums.has" s_Sums_has) (h_Sums_last_step : MethAt K cSums "last_step" "Sums.last_step" s_Sums_last_step) (h_Sums_counts : MethAt K cSums "counts" "Sums.counts" s_Sums_counts) (h_reach_row : FnAt K "reach_row" s_reach_row) (h_least_row : FnAt K "least_row" s_least_row) (h_Sums___init__ : MethAt K cSums "__init__" "Sums.__init__" s_Sums___init__) (h_containing_paper : FnAtT K "containing_paper" s_containing_paper c_containing_paper P_containing_paper) (h_u_law_same : FnAt K "_law_same" s_u_law_same) (h_is_worded : FnAt K "is_worded" s_is_worded) (h_is_integer : FnAt K "is_integer" s_is_integer) (h_is_row : FnAtT K "is_row" s_is_row c_is_row P_is_row) (h_is_counts : FnAtT K "is_counts" s_is_counts c_is_counts P_is_counts) (h_is_potential : FnAt K "is_potential" s_is_potential) (h_is_kept_out : FnAt K "is_kept_out" s_is_kept_out) (h_total : FnAt K "total" s_total) (h_is_way : FnAt K "is_way" s_is_way) (h_check_containing : FnAtT K "check_containing" s_check_containing c_check_containing P_check_containing) (h_u_law_is_worded : FnAt K "_law_is_worded" s_u_law_is_worded) (h_u_law_is_integer : FnAt K "_law_is_integer" s_u_law_is_integer) (h_u_law_is_counts : FnAt K "_law_is_counts" s_u_law_is_counts) (h_u_law_keeps_out : FnAt K "_law_keeps_out" s_u_law_keeps_out) (h_u_law_adds_up : FnAt K "_law_adds_up" s_u_law_adds_up) (h_u_law_is_containing : FnAt K "_law_is_containing" s_u_law_is_containing) (h_law : FnAt K "law" s_law) (hdist : [P_containing_paper, P_is_row, P_is_counts, P_check_containing].Nodup) (r_containing_paper : ((PyProof.Rows.recsOf q).any fun e => e.name == "containing_paper") = true) (r_is_row : ((PyProof.Rows.recsOf q).any fun e => e.name == "is_row") = true) (r_is_counts : ((PyProof.Rows.recsOf q).any fun e => e.name == "is_counts") = true) (r_check_containing : ((PyProof.Rows.recsOf q).any fun e => e.name == "check_containing") = true) :
    LawAtG l w K CX0 8 63 "script" mg fa h := by
  have m_Sums := h_Sums.mg X G
  have Z_Sums : ZSums K cSums := ⟨h_Sums.cl, n_Sums_base, n_Sums_by, n_Sums_row⟩
  obtain ⟨f_u_law_pool, kV_u_law_pool, dc_u_law_pool, pm_u_law_pool, an_u_law_pool, cd_u_law_pool, ct_u_law_pool, F_u_law_pool, m_u_law_pool⟩ := fn_at X G h_u_law_pool
  have b_u_law_pool := F_u_law_pool.binds (ps := ["script"]) fun _ _ _ _ _ _ us hl => match us, hl with | [_], _ => rfl
  obtain ⟨f_u_law_spread, kV_u_law_spread, dc_u_law_spread, pm_u_law_spread, an_u_law_spread, cd_u_law_spread, ct_u_law_spread, F_u_law_spread, m_u_law_spread⟩ := fn_at X G h_u_law_spread
  have b_u_law_spread := F_u_law_spread.binds (ps := ["cell"]) fun _ _ _ _ _ _ us hl => match us, hl with | [_], _ => rfl
  obtain ⟨f_u_law_draw, kV_u_law_draw, dc_u_law_draw, pm_u_law_draw, an_u_law_draw, cd_u_law_draw, ct_u_law_draw, F_u_law_draw, m_u_law_draw⟩ := fn_at X G h_u_law_draw
  have b_u_law_draw := F_u_law_draw.binds (ps := ["pool", "many"]) fun _ _ _ _ _ _ us hl => match us, hl with | [_, _], _ => rfl
  obtain ⟨f_u_law_sums, kV_u_law_sums, dc_u_law_sums, pm_u_law_sums, an_u_law_sums, cd_u_law_sums, ct_u_law_sums, F_u_law_sums, m_u_law_sums⟩ := fn_at X G h_u_law_sums
  have b_u_law_sums := F_u_law_sums.binds (ps := ["numbers", "last"]) fun _ _ _ _ _ _ us hl => match us, hl with | [_, _], _ => rfl
  obtain ⟨f_u_law_base_of, kV_u_law_base_of, dc_u_law_base_of, pm_u_law_base_of, an_u_law_base_of, cd_u_law_base_of, ct_u_law_base_of, F_u_law_base_of, m_u_law_base_of⟩ := fn_at X G h_u_law_base_of
  have b_u_law_base_of := F_u_law_base_of.binds (ps := ["numbers"]) fun _ _ _ _ _ _ us hl => match us, hl with | [_], _ => rfl
  obtain ⟨f_u_law_common, kV_u_law_common, dc_u_law_common, pm_u_law_common, an_u_law_common, cd_u_law_common, ct_u_law_common, F_u_law_common, m_u_law_common⟩ := fn_at X G h_u_law_common
  have b_u_law_common := F_u_law_common.binds (ps := ["a", "b"]) fun _ _ _ _ _ _ us hl => match us, hl with | [_, _], _ => rfl
  obtain ⟨f_u_law_gcd, kV_u_law_gcd, dc_u_law_gcd, pm_u_law_gcd, an_u_law_gcd, cd_u_law_gcd, ct_u_law_gcd, F_u_law_gcd, m_u_law_gcd⟩ := fn_at X G h_u_law_gcd
  have b_u_law_gcd := F_u_law_gcd.binds (ps := ["numbers"]) fun _ _ _ _ _ _ us hl => match us, hl with | [_], _ => rfl
  obtain ⟨f_u_law_base, kV_u_law_base, dc_u_law_base, pm_u_law_base, an_u_law_base, cd_u_law_base, ct_u_law_base, F_u_law_base, m_u_law_base⟩ := fn_at X G h_u_law_base
  have b_u_law_base := F_u_law_base.binds (ps := ["pool", "most"]) fun _ _ _ _ _ _ us hl => match us, hl with | [_, _], _ => rfl
  obtain ⟨f_u_law_two, kV_u_law_two, dc_u_law_two, pm_u_law_two, an_u_law_two, cd_u_law_two, ct_u_law_two, F_u_law_two, m_u_law_two⟩ := fn_at X G h_u_law_two
  have b_u_law_two := F_u_law_two.binds (ps := ["pool"]) fun _ _ _ _ _ _ us hl => match us, hl with | [_], _ => rfl
  obtain ⟨f_u_law_bound, kV_u_law_bound, dc_u_law_bound, pm_u_law_bound, an_u_law_bound, cd_u_law_bound, ct_u_law_bound, F_u_law_bound, m_u_law_bound⟩ := fn_at X G h_u_law_bound
  have b_u_law_bound := F_u_law_bound.binds (ps := ["base"]) fun _ _ _ _ _ _ us hl => match us, hl with | [_], _ => rfl
  obtain ⟨f_u_law_row, kV_u_law_row, dc_u_law_row, pm_u_law_row, an_u_law_row, cd_u_law_row, ct_u_law_row, F_u_law_row, m_u_law_row⟩ := fn_at X G h_u_law_row
  have b_u_law_row := F_u_law_row.binds (ps := ["base"]) fun _ _ _ _ _ _ us hl => match us, hl with | [_], _ => rfl
  obtain ⟨f_u_law_spots, kV_u_law_spots, dc_u_law_spots, pm_u_law_spots, an_u_law_spots, cd_u_law_spots, ct_u_law_spots, F_u_law_spots, m_u_law_spots⟩ := fn_at X G h_u_law_spots
  have b_u_law_spots := F_u_law_spots.binds (ps := ["value", "path"]) fun _ _ _ _ _ _ us hl => match us, hl with | [_, _], _ => rfl
  obtain ⟨f_u_law_pick, kV_u_law_pick, dc_u_law_pick, pm_u_law_pick, an_u_law_pick, cd_u_law_pick, ct_u_law_pick, F_u_law_pick, m_u_law_pick⟩ := fn_at X G h_u_law_pick
  have b_u_law_pick := F_u_law_pick.binds (ps := ["pool", "items"]) fun _ _ _ _ _ _ us hl => match us, hl with | [_, _], _ => rfl
  obtain ⟨f_u_law_odd_values, kV_u_law_odd_values, dc_u_law_odd_values, pm_u_law_odd_values, an_u_law_odd_values, cd_u_law_odd_values, ct_u_law_odd_values, F_u_law_odd_values, m_u_law_odd_values⟩ := fn_at X G h_u_law_odd_values
  have b_u_law_odd_values := F_u_law_odd_values.binds (ps := []) fun _ _ _ _ _ _ us hl => match us, hl with | [], _ => rfl
  obtain ⟨f_u_law_spot_put, kV_u_law_spot_put, dc_u_law_spot_put, pm_u_law_spot_put, an_u_law_spot_put, cd_u_law_spot_put, ct_u_law_spot_put, F_u_law_spot_put, m_u_law_spot_put⟩ := fn_at X G h_u_law_spot_put
  have b_u_law_spot_put := F_u_law_spot_put.binds (ps := ["value", "path", "item"]) fun _ _ _ _ _ _ us hl => match us, hl with | [_, _, _], _ => rfl
  obtain ⟨f_u_law_bent_spot, kV_u_law_bent_spot, dc_u_law_bent_spot, pm_u_law_bent_spot, an_u_law_bent_spot, cd_u_law_bent_spot, ct_u_law_bent_spot, F_u_law_bent_spot, m_u_law_bent_spot⟩ := fn_at X G h_u_law_bent_spot
  have b_u_law_bent_spot := F_u_law_bent_spot.binds (ps := ["pool", "value"]) fun _ _ _ _ _ _ us hl => match us, hl with | [_, _], _ => rfl
  obtain ⟨f_u_law_spot, kV_u_law_spot, dc_u_law_spot, pm_u_law_spot, an_u_law_spot, cd_u_law_spot, ct_u_law_spot, F_u_law_spot, m_u_law_spot⟩ := fn_at X G h_u_law_spot
  have b_u_law_spot := F_u_law_spot.binds (ps := ["value", "path"]) fun _ _ _ _ _ _ us hl => match us, hl with | [_, _], _ => rfl
  obtain ⟨f_u_law_bent, kV_u_law_bent, dc_u_law_bent, pm_u_law_bent, an_u_law_bent, cd_u_law_bent, ct_u_law_bent, F_u_law_bent, m_u_law_bent⟩ := fn_at X G h_u_law_bent
  have b_u_law_bent := F_u_law_bent.binds (ps := ["pool", "paper", "many"]) fun _ _ _ _ _ _ us hl => match us, hl with | [_, _, _], _ => rfl
  obtain ⟨f_Sums_has, kV_Sums_has, dc_Sums_has, pm_Sums_has, an_Sums_has, cd_Sums_has, ct_Sums_has, F_Sums_has, m_Sums_has⟩ := meth_at h_Sums_has
  have b_Sums_has := F_Sums_has.binds (ps := ["self", "n"]) fun _ _ _ _ _ _ us hl => match us, hl with | [_, _], _ => rfl
  obtain ⟨f_Sums_last_step, kV_Sums_last_step, dc_Sums_last_step, pm_Sums_last_step, an_Sums_last_step, cd_Sums_last_step, ct_Sums_last_step, F_Sums_last_step, m_Sums_last_step⟩ := meth_at h_Sums_last_step
  have b_Sums_last_step := F_Sums_last_step.binds (ps := ["self", "remainder"]) fun _ _ _ _ _ _ us hl => match us, hl with | [_, _], _ => rfl
  obtain ⟨f_Sums_counts, kV_Sums_counts, dc_Sums_counts, pm_Sums_counts, an_Sums_counts, cd_Sums_counts, ct_Sums_counts, F_Sums_counts, m_Sums_counts⟩ := meth_at h_Sums_counts
  have b_Sums_counts := F_Sums_counts.binds (ps := ["self", "n"]) fun _ _ _ _ _ _ us hl => match us, hl with | [_, _], _ => rfl
  obtain ⟨f_reach_row, kV_reach_row, dc_reach_row, pm_reach_row, an_reach_row, cd_reach_row, ct_reach_row, F_reach_row, m_reach_row⟩ := fn_at X G h_reach_row
  have b_reach_row := F_reach_row.binds (ps := ["numbers", "by"]) fun _ _ _ _ _ _ us hl => match us, hl with | [_, _], _ => rfl
  obtain ⟨f_least_row, kV_least_row, dc_least_row, pm_least_row, an_least_row, cd_least_row, ct_least_row, F_least_row, m_least_row⟩ := fn_at X G h_least_row
  have b_least_row := F_least_row.binds (ps := ["base"]) fun _ _ _ _ _ _ us hl => match us, hl with | [_], _ => rfl
  obtain ⟨f_Sums___init__, kV_Sums___init__, dc_Sums___init__, pm_Sums___init__, an_Sums___init__, cd_Sums___init__, ct_Sums___init__, F_Sums___init__, m_Sums___init__⟩ := meth_at h_Sums___init__
  have b_Sums___init__ := F_Sums___init__.binds (ps := ["self", "base"]) fun _ _ _ _ _ _ us hl => match us, hl with | [_, _], _ => rfl
  have t_containing_paper := h_containing_paper.tab
  obtain ⟨f_containing_paper, kV_containing_paper, dc_containing_paper, pm_containing_paper, an_containing_paper, ct_containing_paper, F_containing_paper, m_containing_paper⟩ := fn_atT X G h_containing_paper
  have b_containing_paper := F_containing_paper.binds (ps := ["one", "two"]) fun _ _ _ _ _ _ us hl => match us, hl with | [_, _], _ => rfl
  obtain ⟨f_u_law_same, kV_u_law_same, dc_u_law_same, pm_u_law_same, an_u_law_same, cd_u_law_same, ct_u_law_same, F_u_law_same, m_u_law_same⟩ := fn_at X G h_u_law_same
  have b_u_law_same := F_u_law_same.binds (ps := ["actual", "due"]) fun _ _ _ _ _ _ us hl => match us, hl with | [_, _], _ => rfl
  obtain ⟨f_is_worded, kV_is_worded, dc_is_worded, pm_is_worded, an_is_worded, cd_is_worded, ct_is_worded, F_is_worded, m_is_worded⟩ := fn_at X G h_is_worded
  have b_is_worded := F_is_worded.binds (ps := ["value", "word", "length"]) fun _ _ _ _ _ _ us hl => match us, hl with | [_, _, _], _ => rfl
  obtain ⟨f_is_integer, kV_is_integer, dc_is_integer, pm_is_integer, an_is_integer, cd_is_integer, ct_is_integer, F_is_integer, m_is_integer⟩ := fn_at X G h_is_integer
  have b_is_integer := F_is_integer.binds (ps := ["value"]) fun _ _ _ _ _ _ us hl => match us, hl with | [_], _ => rfl
  have t_is_row := h_is_row.tab
  obtain ⟨f_is_row, kV_is_row, dc_is_row, pm_is_row, an_is_row, ct_is_row, F_is_row, m_is_row⟩ := fn_atT X G h_is_row
  have b_is_row := F_is_row.binds (ps := ["value", "length"]) fun _ _ _ _ _ _ us hl => match us, hl with | [_, _], _ => rfl
  have t_is_counts := h_is_counts.tab
  obtain ⟨f_is_counts, kV_is_counts, dc_is_counts, pm_is_counts, an_is_counts, ct_is_counts, F_is_counts, m_is_counts⟩ := fn_atT X G h_is_counts
  have b_is_counts := F_is_counts.binds (ps := ["value", "length"]) fun _ _ _ _ _ _ us hl => match us, hl with | [_, _], _ => rfl
  obtain ⟨f_is_potential, kV_is_potential, dc_is_potential, pm_is_potential, an_is_potential, cd_is_potential, ct_is_potential, F_is_potential, m_is_potential⟩ := fn_at X G h_is_potential
  have b_is_potential := F_is_potential.binds (ps := ["base", "row"]) fun _ _ _ _ _ _ us hl => match us, hl with | [_, _], _ => rfl
  obtain ⟨f_is_kept_out, kV_is_kept_out, dc_is_kept_out, pm_is_kept_out, an_is_kept_out, cd_is_kept_out, ct_is_kept_out, F_is_kept_out, m_is_kept_out⟩ := fn_at X G h_is_kept_out
  have b_is_kept_out := F_is_kept_out.binds (ps := ["base", "n", "row"]) fun _ _ _ _ _ _ us hl => match us, hl with | [_, _, _], _ => rfl
  obtain ⟨f_total, kV_total, dc_total, pm_total, an_total, cd_total, ct_total, F_total, m_total⟩ := fn_at X G h_total
  have b_total := F_total.binds (ps := ["base", "counts"]) fun _ _ _ _ _ _ us hl => match us, hl with | [_, _], _ => rfl
  obtain ⟨f_is_way, kV_is_way, dc_is_way, pm_is_way, an_is_way, cd_is_way, ct_is_way, F_is_way, m_is_way⟩ := fn_at X G h_is_way
  have b_is_way := F_is_way.binds (ps := ["base", "n", "counts"]) fun _ _ _ _ _ _ us hl => match us, hl with | [_, _, _], _ => rfl
  have t_check_containing := h_check_containing.tab
  obtain ⟨f_check_containing, kV_check_containing, dc_check_containing, pm_check_containing, an_check_containing, ct_check_containing, F_check_containing, m_check_containing⟩ := fn_atT X G h_check_containing
  have b_check_containing := F_check_containing.binds (ps := ["one", "two", "value"]) fun _ _ _ _ _ _ us hl => match us, hl with | [_, _, _], _ => rfl
  obtain ⟨f_u_law_is_worded, kV_u_law_is_worded, dc_u_law_is_worded, pm_u_law_is_worded, an_u_law_is_worded, cd_u_law_is_worded, ct_u_law_is_worded, F_u_law_is_worded, m_u_law_is_worded⟩ := fn_at X G h_u_law_is_worded
  have b_u_law_is_worded := F_u_law_is_worded.binds (ps := ["value", "word", "length"]) fun _ _ _ _ _ _ us hl => match us, hl with | [_, _, _], _ => rfl
  obtain ⟨f_u_law_is_integer, kV_u_law_is_integer, dc_u_law_is_integer, pm_u_law_is_integer, an_u_law_is_integer, cd_u_law_is_integer, ct_u_law_is_integer, F_u_law_is_integer, m_u_law_is_integer⟩ := fn_at X G h_u_law_is_integer
  have b_u_law_is_integer := F_u_law_is_integer.binds (ps := ["actual"]) fun _ _ _ _ _ _ us hl => match us, hl with | [_], _ => rfl
  obtain ⟨f_u_law_is_counts, kV_u_law_is_counts, dc_u_law_is_counts, pm_u_law_is_counts, an_u_law_is_counts, cd_u_law_is_counts, ct_u_law_is_counts, F_u_law_is_counts, m_u_law_is_counts⟩ := fn_at X G h_u_law_is_counts
  have b_u_law_is_counts := F_u_law_is_counts.binds (ps := ["value", "length"]) fun _ _ _ _ _ _ us hl => match us, hl with | [_, _], _ => rfl
  obtain ⟨f_u_law_keeps_out, kV_u_law_keeps_out, dc_u_law_keeps_out, pm_u_law_keeps_out, an_u_law_keeps_out, cd_u_law_keeps_out, ct_u_law_keeps_out, F_u_law_keeps_out, m_u_law_keeps_out⟩ := fn_at X G h_u_law_keeps_out
  have b_u_law_keeps_out := F_u_law_keeps_out.binds (ps := ["base", "n", "row"]) fun _ _ _ _ _ _ us hl => match us, hl with | [_, _, _], _ => rfl
  obtain ⟨f_u_law_adds_up, kV_u_law_adds_up, dc_u_law_adds_up, pm_u_law_adds_up, an_u_law_adds_up, cd_u_law_adds_up, ct_u_law_adds_up, F_u_law_adds_up, m_u_law_adds_up⟩ := fn_at X G h_u_law_adds_up
  have b_u_law_adds_up := F_u_law_adds_up.binds (ps := ["base", "n", "counts"]) fun _ _ _ _ _ _ us hl => match us, hl with | [_, _, _], _ => rfl
  obtain ⟨f_u_law_is_containing, kV_u_law_is_containing, dc_u_law_is_containing, pm_u_law_is_containing, an_u_law_is_containing, cd_u_law_is_containing, ct_u_law_is_containing, F_u_law_is_containing, m_u_law_is_containing⟩ := fn_at X G h_u_law_is_containing
  have b_u_law_is_containing := F_u_law_is_containing.binds (ps := ["one", "two", "value"]) fun _ _ _ _ _ _ us hl => match us, hl with | [_, _, _], _ => rfl
  obtain ⟨f_law, kV_law, dc_law, pm_law, an_law, cd_law, ct_law, F_law, m_law⟩ := fn_at X G h_law
  have e := hfa.symm.trans m_law
  cases e
  have each : ∀ {Z : Addr × Addr → Prop}, Z (c_containing_paper, P_containing_paper) ∧ Z (c_is_row, P_is_row) ∧ Z (c_is_counts, P_is_counts) ∧ Z (c_check_containing, P_check_containing) → ∀ p ∈ ([(c_containing_paper, P_containing_paper), (c_is_row, P_is_row), (c_is_counts, P_is_counts), (c_check_containing, P_check_containing)] : List (Addr × Addr)), Z p := by
    intro Z z p hp
    simp only [List.mem_cons, List.not_mem_nil, or_false] at hp
    rcases hp with rfl | rfl | rfl | rfl
    · exact z.1
    · exact z.2.1
    · exact z.2.2.1
    · exact z.2.2.2
  refine ⟨PySem.W.fnOf "law" "law" (defArgs s_law) (defBody s_law) (defScope s_law) .none kV_law dc_law pm_law an_law cd_law ct_law, [(c_containing_paper, P_containing_paper), (c_is_row, P_is_row), (c_is_counts, P_is_counts), (c_check_containing, P_check_containing)], c_law.sp K [(P_containing_paper, none), (P_is_row, none), (P_is_counts, none), (P_check_containing, none)], each ⟨(tq "containing_paper" _ _ r_containing_paper t_containing_paper.1).2, (tq "is_row" _ _ r_is_row t_is_row.1).2, (tq "is_counts" _ _ r_is_counts t_is_counts.1).2, (tq "check_containing" _ _ r_check_containing t_check_containing.1).2⟩, each ⟨t_containing_paper.2, t_is_row.2, t_is_counts.2, t_check_containing.2⟩, each ⟨(tq "containing_paper" _ _ r_containing_paper t_containing_paper.1).1, (tq "is_row" _ _ r_is_row t_is_row.1).1, (tq "is_counts" _ _ r_is_counts t_is_counts.1).1, (tq "check_containing" _ _ r_check_containing t_check_containing.1).1⟩, fun s v => .of_eq rfl, fun H a ns hl _ hT hS => law_readyT (T := [(P_containing_paper, none), (P_is_row, none), (P_is_counts, none), (P_check_containing, none)]) (fun p hp => ?_) hS fun _ => rfl, fun base _ _ TB => ?_⟩
  · have hm : p ∈ ([P_containing_paper, P_is_row, P_is_counts, P_check_containing] : List Addr) := hp
    simp only [List.mem_cons, List.not_mem_nil, or_false] at hm
    rcases hm with rfl | rfl | rfl | rfl
    · exact hT (c_containing_paper, _) (.head _)
    · exact hT (c_is_row, _) (.tail _ (.head _))
    · exact hT (c_is_counts, _) (.tail _ (.tail _ (.head _)))
    · exact hT (c_check_containing, _) (.tail _ (.tail _ (.tail _ (.head _))))
  have TB_containing_paper : GxR.TabB base mg c_containing_paper P_containing_paper := (fun z : LamX.TabB base mg c_containing_paper P_containing_paper => ⟨z.code, z.bm, z.gP⟩) (TB (c_containing_paper, P_containing_paper) (.head _))
  have in_containing_paper : TabOne ([(P_containing_paper, none), (P_is_row, none), (P_is_counts, none), (P_check_containing, none)] : List Tb) P_containing_paper := tabOne_of (show (keysT ([(P_containing_paper, none), (P_is_row, none), (P_is_counts, none), (P_check_containing, none)] : List Tb)).Nodup from hdist) (.head _)
  have TB_is_row : GxR.TabB base mg c_is_row P_is_row := (fun z : LamX.TabB base mg c_is_row P_is_row => ⟨z.code, z.bm, z.gP⟩) (TB (c_is_row, P_is_row) (.tail _ (.head _)))
  have in_is_row : TabOne ([(P_containing_paper, none), (P_is_row, none), (P_is_counts, none), (P_check_containing, none)] : List Tb) P_is_row := tabOne_of (show (keysT ([(P_containing_paper, none), (P_is_row, none), (P_is_counts, none), (P_check_containing, none)] : List Tb)).Nodup from hdist) (.tail _ (.head _))
  have TB_is_counts : GxR.TabB base mg c_is_counts P_is_counts := (fun z : LamX.TabB base mg c_is_counts P_is_counts => ⟨z.code, z.bm, z.gP⟩) (TB (c_is_counts, P_is_counts) (.tail _ (.tail _ (.head _))))
  have in_is_counts : TabOne ([(P_containing_paper, none), (P_is_row, none), (P_is_counts, none), (P_check_containing, none)] : List Tb) P_is_counts := tabOne_of (show (keysT ([(P_containing_paper, none), (P_is_row, none), (P_is_counts, none), (P_check_containing, none)] : List Tb)).Nodup from hdist) (.tail _ (.tail _ (.head _)))
  have TB_check_containing : GxR.TabB base mg c_check_containing P_check_containing := (fun z : LamX.TabB base mg c_check_containing P_check_containing => ⟨z.code, z.bm, z.gP⟩) (TB (c_check_containing, P_check_containing) (.tail _ (.tail _ (.tail _ (.head _)))))
  have in_check_containing : TabOne ([(P_containing_paper, none), (P_is_row, none), (P_is_counts, none), (P_check_containing, none)] : List Tb) P_check_containing := tabOne_of (show (keysT ([(P_containing_paper, none), (P_is_row, none), (P_is_counts, none), (P_check_containing, none)] : List Tb)).Nodup from hdist) (.tail _ (.tail _ (.tail _ (.head _))))
  have D_u_law_pool : DefOk l.prog w K mg base 1 "_law_pool" ["script"] (((c_pool).sp K [(P_containing_paper, none), (P_is_row, none), (P_is_counts, none), (P_check_containing, none)])) := defok F_u_law_pool (ok_u_law_pool F_u_law_pool B) m_u_law_pool b_u_law_pool
  have D_u_law_spread : DefOk l.prog w K mg base 1 "_law_spread" ["cell"] (((c_spread).sp K [(P_containing_paper, none), (P_is_row, none), (P_is_counts, none), (P_check_containing, none)])) := defok F_u_law_spread (ok_u_law_spread F_u_law_spread B) m_u_law_spread b_u_law_spread
  have D_u_law_draw : DefOk l.prog w K mg base 2 "_law_draw" ["pool", "many"] (((c_draw).sp K [(P_containing_paper, none), (P_is_row, none), (P_is_counts, none), (P_check_containing, none)])) := defok F_u_law_draw (ok_u_law_draw F_u_law_draw B D_u_law_spread) m_u_law_draw b_u_law_draw
  have D_u_law_sums : DefOk l.prog w K mg base 1 "_law_sums" ["numbers", "last"] (((c_sums).sp K [(P_containing_paper, none), (P_is_row, none), (P_is_counts, none), (P_check_containing, none)])) := defok F_u_law_sums (ok_u_law_sums F_u_law_sums B) m_u_law_sums b_u_law_sums
  have D_u_law_base_of : DefOk l.prog w K mg base 2 "_law_base_of" ["numbers"] (((_root_.G.F_lbaseof).sp K [(P_containing_paper, none), (P_is_row, none), (P_is_counts, none), (P_check_containing, none)])) := defok F_u_law_base_of (ok_u_law_base_of F_u_law_base_of B D_u_law_sums) m_u_law_base_of b_u_law_base_of
  have D_u_law_common : DefOk l.prog w K mg base 1 "_law_common" ["a", "b"] (((c_common).sp K [(P_containing_paper, none), (P_is_row, none), (P_is_counts, none), (P_check_containing, none)])) := defok F_u_law_common (ok_u_law_common F_u_law_common B) m_u_law_common b_u_law_common
  have D_u_law_gcd : DefOk l.prog w K mg base 2 "_law_gcd" ["numbers"] (((_root_.G.F_lgcd).sp K [(P_containing_paper, none), (P_is_row, none), (P_is_counts, none), (P_check_containing, none)])) := defok F_u_law_gcd (ok_u_law_gcd F_u_law_gcd B D_u_law_common) m_u_law_gcd b_u_law_gcd
  have D_u_law_base : DefOk l.prog w K mg base 3 "_law_base" ["pool", "most"] (((c_base).sp K [(P_containing_paper, none), (P_is_row, none), (P_is_counts, none), (P_check_containing, none)])) := defok F_u_law_base (ok_u_law_base F_u_law_base B D_u_law_draw D_u_law_base_of D_u_law_gcd) m_u_law_base b_u_law_base
  have D_u_law_two : DefOk l.prog w K mg base 4 "_law_two" ["pool"] (((c_two).sp K [(P_containing_paper, none), (P_is_row, none), (P_is_counts, none), (P_check_containing, none)])) := defok F_u_law_two (ok_u_law_two F_u_law_two B D_u_law_base D_u_law_draw D_u_law_base_of) m_u_law_two b_u_law_two
  have D_u_law_bound : DefOk l.prog w K mg base 1 "_law_bound" ["base"] (((_root_.G.F_bound).sp K [(P_containing_paper, none), (P_is_row, none), (P_is_counts, none), (P_check_containing, none)])) := defok F_u_law_bound (ok_u_law_bound F_u_law_bound B) m_u_law_bound b_u_law_bound
  have D_u_law_row : DefOk l.prog w K mg base 2 "_law_row" ["base"] (((_root_.G.F_least_row).sp K [(P_containing_paper, none), (P_is_row, none), (P_is_counts, none), (P_check_containing, none)])) := defok F_u_law_row (ok_u_law_row F_u_law_row B D_u_law_sums D_u_law_bound) m_u_law_row b_u_law_row
  have D_u_law_spots : DefOk l.prog w K mg base 4 "_law_spots" ["value", "path"] (((c_spots 4).sp K [(P_containing_paper, none), (P_is_row, none), (P_is_counts, none), (P_check_containing, none)])) := defok F_u_law_spots (ok_u_law_spots F_u_law_spots B m_u_law_spots b_u_law_spots 4) m_u_law_spots b_u_law_spots
  have D_u_law_pick : DefOk l.prog w K mg base 3 "_law_pick" ["pool", "items"] (((c_pick).sp K [(P_containing_paper, none), (P_is_row, none), (P_is_counts, none), (P_check_containing, none)])) := defok F_u_law_pick (ok_u_law_pick F_u_law_pick B D_u_law_draw) m_u_law_pick b_u_law_pick
  have D_u_law_odd_values : DefOk l.prog w K mg base 1 "_law_odd_values" [] (((c_odd).sp K [(P_containing_paper, none), (P_is_row, none), (P_is_counts, none), (P_check_containing, none)])) := defok F_u_law_odd_values (ok_u_law_odd_values F_u_law_odd_values B) m_u_law_odd_values b_u_law_odd_values
  have D_u_law_spot_put : DefOk l.prog w K mg base 4 "_law_spot_put" ["value", "path", "item"] (((c_sput 4).sp K [(P_containing_paper, none), (P_is_row, none), (P_is_counts, none), (P_check_containing, none)])) := defok F_u_law_spot_put (ok_u_law_spot_put F_u_law_spot_put B m_u_law_spot_put b_u_law_spot_put 4) m_u_law_spot_put b_u_law_spot_put
  have D_u_law_bent_spot : DefOk l.prog w K mg base 4 "_law_bent_spot" ["pool", "value"] (((c_bspot).sp K [(P_containing_paper, none), (P_is_row, none), (P_is_counts, none), (P_check_containing, none)])) := defok F_u_law_bent_spot (ok_u_law_bent_spot F_u_law_bent_spot B D_u_law_pick) m_u_law_bent_spot b_u_law_bent_spot
  have D_u_law_spot : DefOk l.prog w K mg base 1 "_law_spot" ["value", "path"] (((c_spot).sp K [(P_containing_paper, none), (P_is_row, none), (P_is_counts, none), (P_check_containing, none)])) := defok F_u_law_spot (ok_u_law_spot F_u_law_spot B) m_u_law_spot b_u_law_spot
  have D_u_law_bent : DefOk l.prog w K mg base 5 "_law_bent" ["pool", "paper", "many"] (((c_bent 3).sp K [(P_containing_paper, none), (P_is_row, none), (P_is_counts, none), (P_check_containing, none)])) := defok F_u_law_bent (ok_u_law_bent F_u_law_bent B D_u_law_spots D_u_law_pick D_u_law_odd_values D_u_law_spot_put D_u_law_bent_spot D_u_law_spot) m_u_law_bent b_u_law_bent
  have D_Sums_has : MethOk l.prog w K mg base 1 cSums "has" ["self", "n"] (((_root_.G.F_has cSums).sp K [(P_containing_paper, none), (P_is_row, none), (P_is_counts, none), (P_check_containing, none)])) := methok F_Sums_has (ok_Sums_has F_Sums_has B Z_Sums) m_Sums_has b_Sums_has h_Sums.cl
  have D_Sums_last_step : MethOk l.prog w K mg base 1 cSums "last_step" ["self", "remainder"] (((c_last cSums).sp K [(P_containing_paper, none), (P_is_row, none), (P_is_counts, none), (P_check_containing, none)])) := methok F_Sums_last_step (ok_Sums_last_step F_Sums_last_step B Z_Sums) m_Sums_last_step b_Sums_last_step h_Sums.cl
  have D_Sums_counts : MethOk l.prog w K mg base 2 cSums "counts" ["self", "n"] (((c_counts cSums).sp K [(P_containing_paper, none), (P_is_row, none), (P_is_counts, none), (P_check_containing, none)])) := methok F_Sums_counts (ok_Sums_counts F_Sums_counts B D_Sums_last_step Z_Sums) m_Sums_counts b_Sums_counts h_Sums.cl
  have D_reach_row : DefOk l.prog w K mg base 1 "reach_row" ["numbers", "by"] (((c_reach).sp K [(P_containing_paper, none), (P_is_row, none), (P_is_counts, none), (P_check_containing, none)])) := defok F_reach_row (ok_reach_row F_reach_row B) m_reach_row b_reach_row
  have D_least_row : DefOk l.prog w K mg base 2 "least_row" ["base"] (((_root_.G.F_least_row).sp K [(P_containing_paper, none), (P_is_row, none), (P_is_counts, none), (P_check_containing, none)])) := defok F_least_row (ok_least_row F_least_row B D_reach_row) m_least_row b_least_row
  have M_Sums : MakeOk l.prog w K mg base 3 "Sums" cSums ["self", "base"] (((c_sinit cSums).sp K [(P_containing_paper, none), (P_is_row, none), (P_is_counts, none), (P_check_containing, none)])) := ⟨_, _, ok_Sums___init__ F_Sums___init__ B D_least_row Z_Sums, ⟨h_Sums.mks, m_Sums___init__.at_, m_Sums___init__.fn, h_Sums.kc⟩, b_Sums___init__, m_Sums⟩
  have D_containing_paper : DefOk l.prog w K mg base 5 "containing_paper" ["one", "two"] (((c_cpaper).sp K [(P_containing_paper, none), (P_is_row, none), (P_is_counts, none), (P_check_containing, none)])) := defok F_containing_paper (ok_containing_paper F_containing_paper B rfl TB_containing_paper in_containing_paper D_Sums_has D_Sums_counts M_Sums Z_Sums) m_containing_paper b_containing_paper
  have D_u_law_same : DefOk l.prog w K mg base 3 "_law_same" ["actual", "due"] (((c_same 3).sp K [(P_containing_paper, none), (P_is_row, none), (P_is_counts, none), (P_check_containing, none)])) := defok F_u_law_same (ok_u_law_same F_u_law_same B m_u_law_same b_u_law_same 3) m_u_law_same b_u_law_same
  have D_is_worded : DefOk l.prog w K mg base 1 "is_worded" ["value", "word", "length"] (((cP3 (fun v w n => (∃ m, m ≤ 60 ∧ OkD m v) ∧ (∃ x, w = .str x ∧ PyData.canLay0 (.str x) = true) ∧ ∃ k : Int, n = .int k ∧ 1 ≤ k) (fun v w n => .bool (wordD v (strOf w) (intOf n)))).sp K [(P_containing_paper, none), (P_is_row, none), (P_is_counts, none), (P_check_containing, none)])) := defok F_is_worded (ok_is_worded F_is_worded B) m_is_worded b_is_worded
  have D_is_integer : DefOk l.prog w K mg base 1 "is_integer" ["value"] (((cP1 (fun _ => True) (fun d => .bool (isIntD d))).sp K [(P_containing_paper, none), (P_is_row, none), (P_is_counts, none), (P_check_containing, none)])) := defok F_is_integer (ok_is_integer F_is_integer B) m_is_integer b_is_integer
  have D_is_row : DefOk l.prog w K mg base 3 "is_row" ["value", "length"] (((cP2 (fun _ n => ∃ i, n = .int i) (fun v n => .bool (rowD v (intOf n)))).sp K [(P_containing_paper, none), (P_is_row, none), (P_is_counts, none), (P_check_containing, none)])) := defok F_is_row (ok_is_row F_is_row B rfl TB_is_row in_is_row D_is_integer) m_is_row b_is_row
  have D_is_counts : DefOk l.prog w K mg base 4 "is_counts" ["value", "length"] (((cP2 (fun _ n => ∃ i, n = .int i) (fun v n => .bool (countsD v (intOf n)))).sp K [(P_containing_paper, none), (P_is_row, none), (P_is_counts, none), (P_check_containing, none)])) := defok F_is_counts (ok_is_counts F_is_counts B rfl TB_is_counts in_is_counts D_is_row) m_is_counts b_is_counts
  have D_is_potential : DefOk l.prog w K mg base 5 "is_potential" ["base", "row"] (((cP2 (fun b c => ∃ l, b = .tuple (pN l) ∧ BaseB l) (fun b c => .bool (potL (natsOf b) c))).sp K [(P_containing_paper, none), (P_is_row, none), (P_is_counts, none), (P_check_containing, none)])) := defok F_is_potential (ok_is_potential F_is_potential B D_is_counts) m_is_potential b_is_potential
  have D_is_kept_out : DefOk l.prog w K mg base 6 "is_kept_out" ["base", "n", "row"] (((cP3 (fun b n c => (∃ l, b = .tuple (pN l) ∧ BaseB l) ∧ ∃ i, n = .int i) (fun b n c => .bool (keptL (natsOf b) (intOf n) c))).sp K [(P_containing_paper, none), (P_is_row, none), (P_is_counts, none), (P_check_containing, none)])) := defok F_is_kept_out (ok_is_kept_out F_is_kept_out B D_is_potential) m_is_kept_out b_is_kept_out
  have D_total : DefOk l.prog w K mg base 1 "total" ["base", "counts"] (((cP2 (fun b c => (∃ l, b = .tuple (pN l) ∧ BaseB l) ∧ ∃ cs : List Int, c = .tuple (cs.map .int)) (fun b c => .int (MS.dotI (natsOf b) (intsOf c)))).sp K [(P_containing_paper, none), (P_is_row, none), (P_is_counts, none), (P_check_containing, none)])) := defok F_total (ok_total F_total B) m_total b_total
  have D_is_way : DefOk l.prog w K mg base 5 "is_way" ["base", "n", "counts"] (((cP3 (fun b n c => (∃ l, b = .tuple (pN l) ∧ BaseB l) ∧ ∃ i, n = .int i) (fun b n c => .bool (wayL (natsOf b) (intOf n) c))).sp K [(P_containing_paper, none), (P_is_row, none), (P_is_counts, none), (P_check_containing, none)])) := defok F_is_way (ok_is_way F_is_way B D_is_counts D_total) m_is_way b_is_way
  have D_check_containing : DefOk l.prog w K mg base 7 "check_containing" ["one", "two", "value"] ((_root_.G.F_cont.sp K [(P_containing_paper, none), (P_is_row, none), (P_is_counts, none), (P_check_containing, none)])) := defok F_check_containing (ok_check_containing F_check_containing B rfl TB_check_containing in_check_containing D_is_worded D_is_kept_out D_is_integer D_is_way) m_check_containing b_check_containing
  have D_u_law_is_worded : DefOk l.prog w K mg base 1 "_law_is_worded" ["value", "word", "length"] (((cP3 (fun v w n => (∃ m, m ≤ 60 ∧ OkD m v) ∧ (∃ x, w = .str x ∧ PyData.canLay0 (.str x) = true) ∧ ∃ k : Int, n = .int k ∧ 1 ≤ k) (fun v w n => .bool (wordD v (strOf w) (intOf n)))).sp K [(P_containing_paper, none), (P_is_row, none), (P_is_counts, none), (P_check_containing, none)])) := defok F_u_law_is_worded (ok_u_law_is_worded F_u_law_is_worded B) m_u_law_is_worded b_u_law_is_worded
  have D_u_law_is_integer : DefOk l.prog w K mg base 1 "_law_is_integer" ["actual"] (((cP1 (fun _ => True) (fun d => .bool (isIntD d))).sp K [(P_containing_paper, none), (P_is_row, none), (P_is_counts, none), (P_check_containing, none)])) := defok F_u_law_is_integer (ok_u_law_is_integer F_u_law_is_integer B) m_u_law_is_integer b_u_law_is_integer
  have D_u_law_is_counts : DefOk l.prog w K mg base 2 "_law_is_counts" ["value", "length"] (((cP2 (fun v n => (∃ m, Ok m v) ∧ ∃ i, n = .int i) (fun v n => .bool (countsD v (intOf n)))).sp K [(P_containing_paper, none), (P_is_row, none), (P_is_counts, none), (P_check_containing, none)])) := defok F_u_law_is_counts (ok_u_law_is_counts F_u_law_is_counts B D_u_law_is_integer) m_u_law_is_counts b_u_law_is_counts
  have D_u_law_keeps_out : DefOk l.prog w K mg base 3 "_law_keeps_out" ["base", "n", "row"] (((cP3 (fun b n c => (∃ l, b = .tuple (pN l) ∧ BaseB l) ∧ (∃ i, n = .int i) ∧ ∃ m, Ok m c) (fun b n c => .bool (keptL (natsOf b) (intOf n) c))).sp K [(P_containing_paper, none), (P_is_row, none), (P_is_counts, none), (P_check_containing, none)])) := defok F_u_law_keeps_out (ok_u_law_keeps_out F_u_law_keeps_out B D_u_law_is_counts) m_u_law_keeps_out b_u_law_keeps_out
  have D_u_law_adds_up : DefOk l.prog w K mg base 3 "_law_adds_up" ["base", "n", "counts"] (((cP3 (fun b n c => (∃ l, b = .tuple (pN l) ∧ BaseB l) ∧ (∃ i, n = .int i) ∧ ∃ m, Ok m c) (fun b n c => .bool (wayL (natsOf b) (intOf n) c))).sp K [(P_containing_paper, none), (P_is_row, none), (P_is_counts, none), (P_check_containing, none)])) := defok F_u_law_adds_up (ok_u_law_adds_up F_u_law_adds_up B D_u_law_is_counts) m_u_law_adds_up b_u_law_adds_up
  have D_u_law_is_containing : DefOk l.prog w K mg base 4 "_law_is_containing" ["one", "two", "value"] ((_root_.G.F_cont.sp K [(P_containing_paper, none), (P_is_row, none), (P_is_counts, none), (P_check_containing, none)])) := defok F_u_law_is_containing (ok_u_law_is_containing F_u_law_is_containing B D_u_law_is_worded D_u_law_keeps_out D_u_law_is_integer D_u_law_adds_up) m_u_law_is_containing b_u_law_is_containing
  exact ok_law F_law B D_u_law_pool D_u_law_two D_u_law_row D_u_law_bent D_containing_paper D_u_law_pick D_u_law_same D_check_containing D_u_law_is_containing D_u_law_draw
theorem walk {l : PySem.W.OpenLaw} {q : Program} {loose : List Str} {XP : (Str → Option Value) → Heap → Prop} {YP : World → Heap → Prop} {d : DefRec} {K : Params → PySem.W.Frag} (hn : l.most = some 63) (hdf : d.params.defaults = [])
    (hY : ∀ (w : World) (h : Heap), YP w h → (K w.params).In h)
    (F : ∀ (w : World) (mg : Str → Option Value) (fa : Addr) (h : Heap), (K w.params).In h → h.Ns mainGlobals mg → mg d.name = some (.ref fa) → TabOf q (K w.params) h → LawAtG l w (K w.params) CX0 8 63 "script" mg fa h) :
    PySem.W.WalkO q loose XP YP l.row.toRowW d [] (fun f vs => PySem.call f vs) :=
  walk_ofGG (n := 63) (k := 8) (x := "script") (CX := fun _ => CX0) hn (by decide) hdf ⟨rfl, by decide, by decide⟩ hY (fun w mg fa h _ KX G hm t => F w mg fa h KX G hm t) fun _ _ _ _ _ z => z
end L_k13

open PySem PySem.W PyProof.Rows in
theorem PySem.Challenge.cw_semigrove_k13_containing_judged_holds : PySem.Challenge.rw_semigrove_k13_containing_judged.Holds := by
  w_on; o_law; k_head; (case hw => w_witness2)
  k_fill
  refine L_k13.walk (l := PySem.Challenge.rw_semigrove_k13_containing_judged) rfl rfl (fun w h Y => by first | exact PySem.W.kIn_of Y | exact PySem.W.km_in_of Y) ?F
  case F =>
    intro w mg fa h KX gg hmg tq
    refine' L_k13.all_mk tq KX gg hmg (L_k13.Bt.mk (PySem.W.mg_none_of KX gg ?z_len) (PySem.W.mg_none_of KX gg ?z_sorted) (PySem.W.mg_none_of KX gg ?z_set) (PySem.W.mg_none_of KX gg ?z_tuple) (PySem.W.mg_none_of KX gg ?z_range) (PySem.W.mg_none_of KX gg ?z_isinstance) (PySem.W.mg_none_of KX gg ?z_int) (PySem.W.mg_none_of KX gg ?z_bool) (PySem.W.mg_none_of KX gg ?z_all) (PySem.W.mg_none_of KX gg ?z_one) (PySem.W.mg_none_of KX gg ?z_str) (PySem.W.mg_none_of KX gg ?z_sum) (PySem.W.mg_none_of KX gg ?z_zip) (PySem.W.mg_none_of KX gg ?z_member) (PySem.W.mg_none_of KX gg ?z_counts) (PySem.W.mg_none_of KX gg ?z_list) (PySem.W.mg_none_of KX gg ?z_min) (PySem.W.mg_none_of KX gg ?z_repr) (PySem.W.mg_none_of KX gg ?z_max) ) (G.cls_mk ?a_Sums ?pg_Sums ?hd_Sums ?po_Sums ?sa_Sums ?mk_Sums ?kc_Sums) ?n_Sums_base ?n_Sums_by ?n_Sums_row (G.fn_mk ?a_u_law_pool ?l_u_law_pool ?c_u_law_pool ?k_u_law_pool) (G.fn_mk ?a_u_law_spread ?l_u_law_spread ?c_u_law_spread ?k_u_law_spread) (G.fn_mk ?a_u_law_draw ?l_u_law_draw ?c_u_law_draw ?k_u_law_draw) (G.fn_mk ?a_u_law_sums ?l_u_law_sums ?c_u_law_sums ?k_u_law_sums) (G.fn_mk ?a_u_law_base_of ?l_u_law_base_of ?c_u_law_base_of ?k_u_law_base_of) (G.fn_mk ?a_u_law_common ?l_u_law_common ?c_u_law_common ?k_u_law_common) (G.fn_mk ?a_u_law_gcd ?l_u_law_gcd ?c_u_law_gcd ?k_u_law_gcd) (G.fn_mk ?a_u_law_base ?l_u_law_base ?c_u_law_base ?k_u_law_base) (G.fn_mk ?a_u_law_two ?l_u_law_two ?c_u_law_two ?k_u_law_two) (G.fn_mk ?a_u_law_bound ?l_u_law_bound ?c_u_law_bound ?k_u_law_bound) (G.fn_mk ?a_u_law_row ?l_u_law_row ?c_u_law_row ?k_u_law_row) (G.fn_mk ?a_u_law_spots ?l_u_law_spots ?c_u_law_spots ?k_u_law_spots) (G.fn_mk ?a_u_law_pick ?l_u_law_pick ?c_u_law_pick ?k_u_law_pick) (G.fn_mk ?a_u_law_odd_values ?l_u_law_odd_values ?c_u_law_odd_values ?k_u_law_odd_values) (G.fn_mk ?a_u_law_spot_put ?l_u_law_spot_put ?c_u_law_spot_put ?k_u_law_spot_put) (G.fn_mk ?a_u_law_bent_spot ?l_u_law_bent_spot ?c_u_law_bent_spot ?k_u_law_bent_spot) (G.fn_mk ?a_u_law_spot ?l_u_law_spot ?c_u_law_spot ?k_u_law_spot) (G.fn_mk ?a_u_law_bent ?l_u_law_bent ?c_u_law_bent ?k_u_law_bent) (G.meth_mk ?a_Sums_has ?i_Sums_has ?l_Sums_has ?c_Sums_has ?k_Sums_has) (G.meth_mk ?a_Sums_last_step ?i_Sums_last_step ?l_Sums_last_step ?c_Sums_last_step ?k_Sums_last_step) (G.meth_mk ?a_Sums_counts ?i_Sums_counts ?l_Sums_counts ?c_Sums_counts ?k_Sums_counts) (G.fn_mk ?a_reach_row ?l_reach_row ?c_reach_row ?k_reach_row) (G.fn_mk ?a_least_row ?l_least_row ?c_least_row ?k_least_row) (G.meth_mk ?a_Sums___init__ ?i_Sums___init__ ?l_Sums___init__ ?c_Sums___init__ ?k_Sums___init__) (G.fn_mkT ?a_containing_paper ?l_containing_paper ?c_containing_paper ?k_containing_paper ?t_containing_paper ?v_containing_paper ?n_containing_paper) (G.fn_mk ?a_u_law_same ?l_u_law_same ?c_u_law_same ?k_u_law_same) (G.fn_mk ?a_is_worded ?l_is_worded ?c_is_worded ?k_is_worded) (G.fn_mk ?a_is_integer ?l_is_integer ?c_is_integer ?k_is_integer) (G.fn_mkT ?a_is_row ?l_is_row ?c_is_row ?k_is_row ?t_is_row ?v_is_row ?n_is_row) (G.fn_mkT ?a_is_counts ?l_is_counts ?c_is_counts ?k_is_counts ?t_is_counts ?v_is_counts ?n_is_counts) (G.fn_mk ?a_is_potential ?l_is_potential ?c_is_potential ?k_is_potential) (G.fn_mk ?a_is_kept_out ?l_is_kept_out ?c_is_kept_out ?k_is_kept_out) (G.fn_mk ?a_total ?l_total ?c_total ?k_total) (G.fn_mk ?a_is_way ?l_is_way ?c_is_way ?k_is_way) (G.fn_mkT ?a_check_containing ?l_check_containing ?c_check_containing ?k_check_containing ?t_check_containing ?v_check_containing ?n_check_containing) (G.fn_mk ?a_u_law_is_worded ?l_u_law_is_worded ?c_u_law_is_worded ?k_u_law_is_worded) (G.fn_mk ?a_u_law_is_integer ?l_u_law_is_integer ?c_u_law_is_integer ?k_u_law_is_integer) (G.fn_mk ?a_u_law_is_counts ?l_u_law_is_counts ?c_u_law_is_counts ?k_u_law_is_counts) (G.fn_mk ?a_u_law_keeps_out ?l_u_law_keeps_out ?c_u_law_keeps_out ?k_u_law_keeps_out) (G.fn_mk ?a_u_law_adds_up ?l_u_law_adds_up ?c_u_law_adds_up ?k_u_law_adds_up) (G.fn_mk ?a_u_law_is_containing ?l_u_law_is_containing ?c_u_law_is_containing ?k_u_law_is_containing) (G.fn_mk ?a_law ?l_law ?c_law ?k_law) ?hdist ?r_containing_paper ?r_is_row ?r_is_counts ?r_check_containing
    (case z_len => k_is)
    (case z_sorted => k_is)
    (case z_set => k_is)
    (case z_tuple => k_is)
    (case z_range => k_is)
    (case z_isinstance => k_is)
    (case z_int => k_is)
    (case z_bool => k_is)
    (case z_all => k_is)
    (case z_one => k_is)
    (case z_str => k_is)
    (case z_sum => k_is)
    (case z_zip => k_is)
    (case z_member => k_is)
    (case z_counts => k_is)
    (case z_list => k_is)
    (case z_min => k_is)
    (case z_repr => k_is)
    (case z_max => k_is)
    (case a_Sums => k_is); (case pg_Sums => k_is); (case hd_Sums => k_is); (case po_Sums => k_is); (case sa_Sums => k_is); (case mk_Sums => k_is); (case kc_Sums => k_is)
    (case n_Sums_base => (unfold L2.NoAttr; k_is))
    (case n_Sums_by => (unfold L2.NoAttr; k_is))
    (case n_Sums_row => (unfold L2.NoAttr; k_is))
    (case a_u_law_pool => k_is); (case l_u_law_pool => k_is); (case c_u_law_pool => k_is); (case k_u_law_pool => k_is)
    (case a_u_law_spread => k_is); (case l_u_law_spread => k_is); (case c_u_law_spread => k_is); (case k_u_law_spread => k_is)
    (case a_u_law_draw => k_is); (case l_u_law_draw => k_is); (case c_u_law_draw => k_is); (case k_u_law_draw => k_is)
    (case a_u_law_sums => k_is); (case l_u_law_sums => k_is); (case c_u_law_sums => k_is); (case k_u_law_sums => k_is)
    (case a_u_law_base_of => k_is); (case l_u_law_base_of => k_is); (case c_u_law_base_of => k_is); (case k_u_law_base_of => k_is)
    (case a_u_law_common => k_is); (case l_u_law_common => k_is); (case c_u_law_common => k_is); (case k_u_law_common => k_is)
    (case a_u_law_gcd => k_is); (case l_u_law_gcd => k_is); (case c_u_law_gcd => k_is); (case k_u_law_gcd => k_is)
    (case a_u_law_base => k_is); (case l_u_law_base => k_is); (case c_u_law_base => k_is); (case k_u_law_base => k_is)
    (case a_u_law_two => k_is); (case l_u_law_two => k_is); (case c_u_law_two => k_is); (case k_u_law_two => k_is)
    (case a_u_law_bound => k_is); (case l_u_law_bound => k_is); (case c_u_law_bound => k_is); (case k_u_law_bound => k_is)
    (case a_u_law_row => k_is); (case l_u_law_row => k_is); (case c_u_law_row => k_is); (case k_u_law_row => k_is)
    (case a_u_law_spots => k_is); (case l_u_law_spots => k_is); (case c_u_law_spots => k_is); (case k_u_law_spots => k_is)
    (case a_u_law_pick => k_is); (case l_u_law_pick => k_is); (case c_u_law_pick => k_is); (case k_u_law_pick => k_is)
    (case a_u_law_odd_values => k_is); (case l_u_law_odd_values => k_is); (case c_u_law_odd_values => k_is); (case k_u_law_odd_values => k_is)
    (case a_u_law_spot_put => k_is); (case l_u_law_spot_put => k_is); (case c_u_law_spot_put => k_is); (case k_u_law_spot_put => k_is)
    (case a_u_law_bent_spot => k_is); (case l_u_law_bent_spot => k_is); (case c_u_law_bent_spot => k_is); (case k_u_law_bent_spot => k_is)
    (case a_u_law_spot => k_is); (case l_u_law_spot => k_is); (case c_u_law_spot => k_is); (case k_u_law_spot => k_is)
    (case a_u_law_bent => k_is); (case l_u_law_bent => k_is); (case c_u_law_bent => k_is); (case k_u_law_bent => k_is)
    (case a_Sums_has => k_is); (case i_Sums_has => k_is); (case l_Sums_has => k_is); (case c_Sums_has => k_is); (case k_Sums_has => k_is)
    (case a_Sums_last_step => k_is); (case i_Sums_last_step => k_is); (case l_Sums_last_step => k_is); (case c_Sums_last_step => k_is); (case k_Sums_last_step => k_is)
    (case a_Sums_counts => k_is); (case i_Sums_counts => k_is); (case l_Sums_counts => k_is); (case c_Sums_counts => k_is); (case k_Sums_counts => k_is)
    (case a_reach_row => k_is); (case l_reach_row => k_is); (case c_reach_row => k_is); (case k_reach_row => k_is)
    (case a_least_row => k_is); (case l_least_row => k_is); (case c_least_row => k_is); (case k_least_row => k_is)
    (case a_Sums___init__ => k_is); (case i_Sums___init__ => k_is); (case l_Sums___init__ => k_is); (case c_Sums___init__ => k_is); (case k_Sums___init__ => k_is)
    (case a_containing_paper => k_is); (case l_containing_paper => k_is); (case c_containing_paper => k_is); (case k_containing_paper => k_is); (case t_containing_paper => k_is)
    (case v_containing_paper => exact rfl); (case n_containing_paper => exact rfl); (case r_containing_paper => decide +kernel)
    (case a_u_law_same => k_is); (case l_u_law_same => k_is); (case c_u_law_same => k_is); (case k_u_law_same => k_is)
    (case a_is_worded => k_is); (case l_is_worded => k_is); (case c_is_worded => k_is); (case k_is_worded => k_is)
    (case a_is_integer => k_is); (case l_is_integer => k_is); (case c_is_integer => k_is); (case k_is_integer => k_is)
    (case a_is_row => k_is); (case l_is_row => k_is); (case c_is_row => k_is); (case k_is_row => k_is); (case t_is_row => k_is)
    (case v_is_row => exact rfl); (case n_is_row => exact rfl); (case r_is_row => decide +kernel)
    (case a_is_counts => k_is); (case l_is_counts => k_is); (case c_is_counts => k_is); (case k_is_counts => k_is); (case t_is_counts => k_is)
    (case v_is_counts => exact rfl); (case n_is_counts => exact rfl); (case r_is_counts => decide +kernel)
    (case a_is_potential => k_is); (case l_is_potential => k_is); (case c_is_potential => k_is); (case k_is_potential => k_is)
    (case a_is_kept_out => k_is); (case l_is_kept_out => k_is); (case c_is_kept_out => k_is); (case k_is_kept_out => k_is)
    (case a_total => k_is); (case l_total => k_is); (case c_total => k_is); (case k_total => k_is)
    (case a_is_way => k_is); (case l_is_way => k_is); (case c_is_way => k_is); (case k_is_way => k_is)
    (case a_check_containing => k_is); (case l_check_containing => k_is); (case c_check_containing => k_is); (case k_check_containing => k_is); (case t_check_containing => k_is)
    (case v_check_containing => exact rfl); (case n_check_containing => exact rfl); (case r_check_containing => decide +kernel)
    (case a_u_law_is_worded => k_is); (case l_u_law_is_worded => k_is); (case c_u_law_is_worded => k_is); (case k_u_law_is_worded => k_is)
    (case a_u_law_is_integer => k_is); (case l_u_law_is_integer => k_is); (case c_u_law_is_integer => k_is); (case k_u_law_is_integer => k_is)
    (case a_u_law_is_counts => k_is); (case l_u_law_is_counts => k_is); (case c_u_law_is_counts => k_is); (case k_u_law_is_counts => k_is)
    (case a_u_law_keeps_out => k_is); (case l_u_law_keeps_out => k_is); (case c_u_law_keeps_out => k_is); (case k_u_law_keeps_out => k_is)
    (case a_u_law_adds_up => k_is); (case l_u_law_adds_up => k_is); (case c_u_law_adds_up => k_is); (case k_u_law_adds_up => k_is)
    (case a_u_law_is_containing => k_is); (case l_u_law_is_containing => k_is); (case c_u_law_is_containing => k_is); (case k_u_law_is_containing => k_is)
    (case a_law => k_is); (case l_law => k_is); (case c_law => k_is); (case k_law => k_is)
    (case hdist => decide)
