import PyProof.Rows.All
import Wide.All
import OpenK.AllK
import Wide.FinOn
import KE.KDictKeyed
import KE.KeyNested
import HandS.ForMost
import HandS.ForExc
import HandS.Star
import HandS.Property
import HandS.ClsMeth
import HandS.IsInst
import HandS.TupAny
import HandS.Deep
import HandS.Style
import HandS.MakeKw
import HandS.Zip
import HandS.Rev
import HandS.RevRange
import HandS.TupLen
import HandS.SlotsOwn
import HandS.IterNext
import HandS.IterVal
import HandS.OwnIter
import PySem.Challenge.RW_fusewalks_k11_plan_order
set_option Elab.async false
set_option linter.all false
set_option maxRecDepth 100000
set_option maxHeartbeats 4000000
namespace FV
open PySem PySem.Spec PyProof.Rows L2

/-! ### data by value; a store of the objects that may still change -/
inductive D where
  | non | bl (b : Bool) | int (i : Int) | str (s : Str) | tup (xs : List D) | lst (xs : List D) | dct (t : Bool) (kvs : List (D × D)) | ins (c : Nat) (fs : List (Nat × D))
  | ref (n : Nat) | scr (ns : List Int) | exv (c : Nat) (fs : List (Nat × D))
mutual
def D.beq : D → D → Bool
  | .non, y => match y with | .non => true | _ => false
  | .bl a, y => match y with | .bl b => a == b | _ => false
  | .int a, y => match y with | .int b => a == b | _ => false
  | .str a, y => match y with | .str b => a == b | _ => false
  | .tup a, y => match y with | .tup b => D.beqs a b | _ => false
  | .lst a, y => match y with | .lst b => D.beqs a b | _ => false
  | .dct t a, y => match y with | .dct u b => t == u && D.beqk a b | _ => false
  | .ins c a, y => match y with | .ins d b => c == d && D.beqf a b | _ => false
  | .exv c a, y => match y with | .exv d b => c == d && D.beqf a b | _ => false
  | .ref a, y => match y with | .ref b => a == b | _ => false
  | .scr a, y => match y with | .scr b => a == b | _ => false
def D.beqs : List D → List D → Bool
  | [], y => match y with | [] => true | _ => false
  | x :: xs, y => match y with | y :: ys => D.beq x y && D.beqs xs ys | _ => false
def D.beqk : List (D × D) → List (D × D) → Bool
  | [], y => match y with | [] => true | _ => false
  | (k, x) :: xs, y => match y with | (q, y) :: ys => D.beq k q && D.beq x y && D.beqk xs ys | _ => false
def D.beqf : List (Nat × D) → List (Nat × D) → Bool
  | [], y => match y with | [] => true | _ => false
  | (k, x) :: xs, y => match y with | (q, y) :: ys => k == q && D.beq x y && D.beqf xs ys | _ => false
end
mutual
theorem D.beq_iff : ∀ a b : D, D.beq a b = true ↔ a = b
  | .non, b => by cases b <;> simp [D.beq]
  | .bl _, b => by cases b <;> simp [D.beq]
  | .int _, b => by cases b <;> simp [D.beq]
  | .str _, b => by cases b <;> simp [D.beq]
  | .ref _, b => by cases b <;> simp [D.beq]
  | .scr _, b => by cases b <;> simp [D.beq]
  | .tup xs, b => by
    cases b with
    | tup ys => simp [D.beq, D.beqs_iff xs ys]
    | _ => simp [D.beq]
  | .lst xs, b => by
    cases b with
    | lst ys => simp [D.beq, D.beqs_iff xs ys]
    | _ => simp [D.beq]
  | .dct t xs, b => by
    cases b with
    | dct u ys => simp [D.beq, D.beqk_iff xs ys]
    | _ => simp [D.beq]
  | .ins c xs, b => by
    cases b with
    | ins d ys => simp [D.beq, D.beqf_iff xs ys]
    | _ => simp [D.beq]
  | .exv c xs, b => by
    cases b with
    | exv d ys => simp [D.beq, D.beqf_iff xs ys]
    | _ => simp [D.beq]
theorem D.beqs_iff : ∀ a b : List D, D.beqs a b = true ↔ a = b
  | [], b => by cases b <;> simp [D.beqs]
  | x :: xs, b => by
    cases b with
    | nil => simp [D.beqs]
    | cons y ys => simp [D.beqs, D.beq_iff x y, D.beqs_iff xs ys]
theorem D.beqk_iff : ∀ a b : List (D × D), D.beqk a b = true ↔ a = b
  | [], b => by cases b <;> simp [D.beqk]
  | (k, x) :: xs, b => by
    cases b with
    | nil => simp [D.beqk]
    | cons y ys => obtain ⟨q, y⟩ := y; simp [D.beqk, D.beq_iff k q, D.beq_iff x y, D.beqk_iff xs ys]
theorem D.beqf_iff : ∀ a b : List (Nat × D), D.beqf a b = true ↔ a = b
  | [], b => by cases b <;> simp [D.beqf]
  | (k, x) :: xs, b => by
    cases b with
    | nil => simp [D.beqf]
    | cons y ys => obtain ⟨q, y⟩ := y; simp [D.beqf, D.beq_iff x y, D.beqf_iff xs ys]
end
instance : DecidableEq D := fun a b => decidable_of_iff _ (D.beq_iff a b)
instance : Inhabited D := ⟨.non⟩

inductive DObj where
  | lst (xs : List D)
  | ins (c : Nat) (fs : List (Nat × D))
  | dct (t : Bool) (kvs : List (D × D))
  | dead
  deriving DecidableEq
abbrev DSto := List DObj
abbrev DEnv := List (Option D)
inductive DRes (α : Type) where
  | ok (a : α) (st : DSto)
  | exc (c : Nat) (fs : List (Nat × D)) (st : DSto)
  | bad
def DRes.bind {α β : Type} : DRes α → (α → DSto → DRes β) → DRes β
  | .ok a st, f => f a st
  | .exc c fs st, _ => .exc c fs st
  | .bad, _ => .bad
@[simp] theorem DRes.bind_ok {α β : Type} (a : α) (st : DSto) (f : α → DSto → DRes β) : (DRes.ok a st).bind f = f a st := id rfl
@[simp] theorem DRes.bind_exc {α β : Type} (c : Nat) (fs) (st : DSto) (f : α → DSto → DRes β) : (DRes.exc c fs st : DRes α).bind f = .exc c fs st := id rfl
@[simp] theorem DRes.bind_bad {α β : Type} (f : α → DSto → DRes β) : (DRes.bad : DRes α).bind f = .bad := id rfl
abbrev Den := DEnv → DSto → DRes D
abbrev DenT := DEnv → DSto → DRes Bool
abbrev DenA := DEnv → DSto → DRes (List D)
abbrev FnD := List D → DSto → DRes D
inductive DStm where
  | nx (ρ : DEnv) (st : DSto)
  | rt (d : D) (st : DSto)
  | bk (ρ : DEnv) (st : DSto)
  | ct (ρ : DEnv) (st : DSto)
  | exc (c : Nat) (fs : List (Nat × D)) (ρ : DEnv) (st : DSto)
  | bad
abbrev DenS := DEnv → DSto → DStm

/-! ### how data lie in the abstract heap -/
structure Tb where
  P : Program
  w : World
  K : PySem.W.Frag
  CT : List Addr
  FT : List Str
  nd : FT.Nodup
  /-- the exception that is handled: itself, its dict, its class -/
  ex : Option (Addr × Addr × Nat)
/-- where the store's objects stand; what is being built beside it -/
structure Mu where
  l : List Addr
  x : List Addr
abbrev Mu.add (M : Mu) (a : Addr) : Mu := ⟨M.l ++ [a], M.x⟩
abbrev Mu.build (M : Mu) (a : Addr) : Mu := ⟨M.l, a :: M.x⟩
/-- neither in the store nor being built -/
def Fr (M : Mu) (a : Addr) : Prop := a ∉ M.l ∧ a ∉ M.x
/-- a list of the written part -/
def SqK (K : PySem.W.Frag) (a : Addr) (xs : List V) : Prop :=
  ∃ (o : Obj) (its : Array Value) (n : Nat), K.lookup a = some o ∧ o.cls = .type "list" ∧ o.dict = none ∧ o.data = .seq its n ∧ its.size ≤ sizeLine ∧ Vals xs its.toList
def keyD : Key → D
  | .inl i => .int i
  | .inr s => .str s
mutual
/-- data as a key -/
def keyN : D → Option NestedKey
  | .non => some .none
  | .bl b => some (.num (if b then 1 else 0))
  | .int i => some (.num i)
  | .str s => some (.text s)
  | .tup xs => (keyNs xs).map .tup
  | _ => none
def keyNs : List D → Option (List NestedKey)
  | [] => some []
  | x :: xs => (keyN x).bind fun a => (keyNs xs).map fun b => a :: b
end
/-- a dict whose keys are tuples: its entries, told of its own object alone -/
def NdO (P : Program) (w : World) (a : Addr) (ks : List (NestedKey × Addr × V)) : Heap → Prop := fun h => (a == sysModules) = false ∧ ks.length ≤ sizeLine ∧
  ∃ (xs : List (NestedKey × Addr × Value)), Paired (fun (p : NestedKey × Addr × V) (q : NestedKey × Addr × Value) => p.1 = q.1 ∧ p.2.1 = q.2.1 ∧ RelV p.2.2 q.2.2) ks xs ∧
    ∃ o es ep, h.get? a = some o ∧ o.ExactDict ∧ o.data = .dict es ep ∧ es.toList = xs.map (entryOfKey (nestedKind P w)) ∧ (xs.map (·.1)).Nodup
section
variable (T : Tb) (M : Mu) (H : Hp)
mutual
def RV : D → V → Prop
  | .non, v => v = .non
  | .bl b, v => v = .bl b
  | .int i, v => v = .int i
  | .str s, v => v = .str s
  | .tup xs, v => ∃ a vs, v = .ref a ∧ Fr M a ∧ H a = some (.tup vs) ∧ RVs xs vs
  | .lst xs, v => ∃ a vs, v = .ref a ∧ Fr M a ∧ H a = some (.lst vs) ∧ RVs xs vs
  | .dct t kvs, v => ∃ a, v = .ref a ∧ Fr M a ∧ ((t = false ∧ ∃ ks, H a = some (.dK ks) ∧ RK kvs ks) ∨ t = true ∧ ∃ ks, H a = some (.ext (NdO T.P T.w a ks)) ∧ RN kvs ks)
  | .ins c fs, v => ∃ a C dx vs, v = .ref a ∧ Fr M a ∧ T.CT[c]? = some C ∧ Cls T.K C ∧ H a = some (.ins C dx vs) ∧ RF C fs vs
  | .ref n, v => ∃ a, v = .ref a ∧ M.l[n]? = some a
  | .scr ns, v => ∃ a, v = .ref a ∧ ((∃ o, Fr M a ∧ H a = some (.frz o (.lst (ns.map V.int)))) ∨ SqK T.K a (ns.map V.int))
  | .exv c fs, v => ∃ a dd xs, v = .ref a ∧ T.ex = some (a, dd, c) ∧ Fr M dd ∧ H dd = some (.xd xs) ∧ RX fs xs
def RVs : List D → List V → Prop
  | [], vs => vs = []
  | x :: xs, vs => ∃ v ws, vs = v :: ws ∧ RV x v ∧ RVs xs ws
def RK : List (D × D) → List (Key × V) → Prop
  | [], ks => ks = []
  | (k, d) :: r, ks => ∃ q v ws, ks = (q, v) :: ws ∧ k = keyD q ∧ RV d v ∧ RK r ws
def RN : List (D × D) → List (NestedKey × Addr × V) → Prop
  | [], ks => ks = []
  | (k, d) :: r, ks => ∃ q b v ws, ks = (q, b, v) :: ws ∧ keyN k = some q ∧ q.depth ≤ 8 ∧ RV k (.ref b) ∧ RV d v ∧ RN r ws
def RF (C : Addr) : List (Nat × D) → List (Str × V) → Prop
  | [], vs => vs = []
  | (i, d) :: r, vs => ∃ n v ws, vs = (n, v) :: ws ∧ T.FT[i]? = some n ∧ NoAttr T.K C n ∧ RV d v ∧ RF C r ws
def RX : List (Nat × D) → List (Str × V) → Prop
  | [], vs => vs = []
  | (i, d) :: r, vs => ∃ n v ws, vs = (n, v) :: ws ∧ T.FT[i]? = some n ∧ RV d v ∧ RX r ws
end
def RO : DObj → Addr → Prop
  | .lst xs, a => ∃ vs, H a = some (.lst vs) ∧ RVs T M H xs vs
  | .ins c fs, a => ∃ C dx vs, T.CT[c]? = some C ∧ Cls T.K C ∧ H a = some (.ins C dx vs) ∧ RF T M H C fs vs
  | .dct t kvs, a => (t = false ∧ ∃ ks, H a = some (.dK ks) ∧ RK T M H kvs ks) ∨ t = true ∧ ∃ ks, H a = some (.ext (NdO T.P T.w a ks)) ∧ RN T M H kvs ks
  | .dead, a => ∃ u, H a = some u ∧ (∀ xs, u ≠ .tup xs) ∧ ∀ o w, u ≠ .frz o w
structure SOk (st : DSto) : Prop where
  len : M.l.length = st.length
  ro : ∀ (i : Nat) (o : DObj) (a : Addr), st[i]? = some o → M.l[i]? = some a → RO T M H o a
  inj : ∀ (i j : Nat) (a : Addr), M.l[i]? = some a → M.l[j]? = some a → i = j
  dis : ∀ a ∈ M.l, a ∉ M.x
  bld : ∀ a ∈ M.x, ∃ o, H a = some o
structure EOk (ρ : DEnv) (σ : L2.St) : Prop where
  len : ρ.length = σ.length
  val : ∀ (i : Nat) (d : D), ρ[i]? = some (some d) → ∃ v, σ[i]? = some (some v) ∧ RV T M H d v
end
/-- data of the one stand in the other -/
structure Mo (M : Mu) (H : Hp) (M' : Mu) (H' : Hp) : Prop where
  get : ∀ (n : Nat) (a : Addr), M.l[n]? = some a → M'.l[n]? = some a
  by_ : ∀ a o, H a = some o → Fr M a → H' a = some o ∧ Fr M' a
structure Ex (M : Mu) (H : Hp) (M' : Mu) (H' : Hp) : Prop where
  pre : ∃ ν, M'.l = M.l ++ ν
  x : M'.x = M.x
  fr : ∀ a o, H a = some o → a ∉ M.l → H' a = some o
  nw : ∀ a, a ∈ M'.l → a ∉ M.l → H a = none ∧ a ∉ M.x

section
variable {T : Tb} {M M' M1 M2 : Mu} {H H' H1 H2 : Hp} {st st' : DSto} {a : Addr}
theorem Mo.refl : Mo M H M H := ⟨fun _ _ h => h, fun _ _ h k => ⟨h, k⟩⟩
theorem Mo.trans (x : Mo M H M1 H1) (y : Mo M1 H1 M2 H2) : Mo M H M2 H2 := ⟨fun n a h => y.get n a (x.get n a h), fun a o h k => y.by_ a o (x.by_ a o h k).1 (x.by_ a o h k).2⟩
theorem Ex.mo (x : Ex M H M' H') : Mo M H M' H' := by
  refine ⟨fun n a h => ?_, fun a o h k => ⟨x.fr a o h k.1, fun z => ?_, fun z => ?_⟩⟩
  · obtain ⟨ν, e⟩ := x.pre
    rw [e, List.getElem?_append_left (List.getElem?_eq_some_iff.mp h).1]
    exact h
  · have := (x.nw a z k.1).1
    rw [h] at this; cases this
  · rw [x.x] at z; exact k.2 z
theorem Ex.refl : Ex M H M H := ⟨⟨[], by simp⟩, rfl, fun _ _ h _ => h, fun a h n => absurd h n⟩
theorem Ex.trans (x : Ex M H M1 H1) (y : Ex M1 H1 M2 H2) : Ex M H M2 H2 := by
  obtain ⟨n1, e1⟩ := x.pre
  obtain ⟨n2, e2⟩ := y.pre
  have k : ∀ a o, H a = some o → a ∉ M.l → H1 a = some o ∧ a ∉ M1.l := fun a o h f => ⟨x.fr a o h f, fun z => by
    have := (x.nw a z f).1
    rw [h] at this; cases this⟩
  refine ⟨⟨n1 ++ n2, by rw [e2, e1, List.append_assoc]⟩, y.x.trans x.x, fun a o h f => y.fr a o (k a o h f).1 (k a o h f).2, fun a h ha => ?_⟩
  by_cases z : a ∈ M1.l
  · exact x.nw a z ha
  · obtain ⟨y1, y2⟩ := y.nw a h z
    rw [x.x] at y2
    refine ⟨?_, y2⟩
    cases q : H a with
    | none => rfl
    | some o =>
      have := (k a o q ha).1
      rw [y1] at this; cases this
theorem Ex.get (x : Ex M H M' H') {n : Nat} (h : M.l[n]? = some a) : M'.l[n]? = some a := x.mo.get n a h
mutual
theorem RV.mo (x : Mo M H M' H') : ∀ {d : D} {v : V}, RV T M H d v → RV T M' H' d v
  | .non, _, h => by simpa [RV] using h
  | .bl _, _, h => by simpa [RV] using h
  | .int _, _, h => by simpa [RV] using h
  | .str _, _, h => by simpa [RV] using h
  | .tup xs, _, h => by
    simp only [RV] at h ⊢
    obtain ⟨a, vs, e, f, h1, h2⟩ := h
    obtain ⟨h1, f⟩ := x.by_ _ _ h1 f
    exact ⟨a, vs, e, f, h1, RVs.mo x h2⟩
  | .lst xs, _, h => by
    simp only [RV] at h ⊢
    obtain ⟨a, vs, e, f, h1, h2⟩ := h
    obtain ⟨h1, f⟩ := x.by_ _ _ h1 f
    exact ⟨a, vs, e, f, h1, RVs.mo x h2⟩
  | .dct t kvs, _, h => by
    simp only [RV] at h ⊢
    obtain ⟨a, e, f, h⟩ := h
    rcases h with ⟨ht, ks, h1, h2⟩ | ⟨ht, ks, h1, h2⟩
    · obtain ⟨h1, f⟩ := x.by_ _ _ h1 f
      exact ⟨a, e, f, .inl ⟨ht, ks, h1, RK.mo x h2⟩⟩
    · obtain ⟨h1, f⟩ := x.by_ _ _ h1 f
      exact ⟨a, e, f, .inr ⟨ht, ks, h1, RN.mo x h2⟩⟩
  | .ins c fs, _, h => by
    simp only [RV] at h ⊢
    obtain ⟨a, C, dx, vs, e, f, hC, hc, h1, h2⟩ := h
    obtain ⟨h1, f⟩ := x.by_ _ _ h1 f
    exact ⟨a, C, dx, vs, e, f, hC, hc, h1, RF.mo x h2⟩
  | .ref n, _, h => by
    simp only [RV] at h ⊢
    obtain ⟨a, e, h⟩ := h
    exact ⟨a, e, x.get _ _ h⟩
  | .scr ns, _, h => by
    simp only [RV] at h ⊢
    obtain ⟨a, e, h⟩ := h
    refine ⟨a, e, h.imp (fun ⟨o, f, z⟩ => ?_) id⟩
    obtain ⟨z, f⟩ := x.by_ _ _ z f
    exact ⟨o, f, z⟩
  | .exv c fs, _, h => by
    simp only [RV] at h ⊢
    obtain ⟨a, dd, xs, e, e2, f, h1, h2⟩ := h
    obtain ⟨h1, f⟩ := x.by_ _ _ h1 f
    exact ⟨a, dd, xs, e, e2, f, h1, RX.mo x h2⟩
theorem RVs.mo (x : Mo M H M' H') : ∀ {d : List D} {v : List V}, RVs T M H d v → RVs T M' H' d v
  | [], _, h => by simpa [RVs] using h
  | d :: ds, _, h => by
    simp only [RVs] at h ⊢
    obtain ⟨v, ws, e, h1, h2⟩ := h
    exact ⟨v, ws, e, RV.mo x h1, RVs.mo x h2⟩
theorem RK.mo (x : Mo M H M' H') : ∀ {d : List (D × D)} {v : List (Key × V)}, RK T M H d v → RK T M' H' d v
  | [], _, h => by simpa [RK] using h
  | (k, d) :: ds, _, h => by
    simp only [RK] at h ⊢
    obtain ⟨q, v, ws, e, e2, h1, h2⟩ := h
    exact ⟨q, v, ws, e, e2, RV.mo x h1, RK.mo x h2⟩
theorem RN.mo (x : Mo M H M' H') : ∀ {d : List (D × D)} {v : List (NestedKey × Addr × V)}, RN T M H d v → RN T M' H' d v
  | [], _, h => by simpa [RN] using h
  | (k, d) :: ds, _, h => by
    simp only [RN] at h ⊢
    obtain ⟨q, b, v, ws, e, e2, e3, h0, h1, h2⟩ := h
    exact ⟨q, b, v, ws, e, e2, e3, RV.mo x h0, RV.mo x h1, RN.mo x h2⟩
theorem RF.mo (x : Mo M H M' H') {C : Addr} : ∀ {d : List (Nat × D)} {v : List (Str × V)}, RF T M H C d v → RF T M' H' C d v
  | [], _, h => by simpa [RF] using h
  | (k, d) :: ds, _, h => by
    simp only [RF] at h ⊢
    obtain ⟨n, v, ws, e, e2, e3, h1, h2⟩ := h
    exact ⟨n, v, ws, e, e2, e3, RV.mo x h1, RF.mo x h2⟩
theorem RX.mo (x : Mo M H M' H') : ∀ {d : List (Nat × D)} {v : List (Str × V)}, RX T M H d v → RX T M' H' d v
  | [], _, h => by simpa [RX] using h
  | (k, d) :: ds, _, h => by
    simp only [RX] at h ⊢
    obtain ⟨n, v, ws, e, e2, h1, h2⟩ := h
    exact ⟨n, v, ws, e, e2, RV.mo x h1, RX.mo x h2⟩
end
theorem RV.ex (x : Ex M H M' H') {d : D} {v : V} (h : RV T M H d v) : RV T M' H' d v := h.mo x.mo
theorem RVs.ex (x : Ex M H M' H') {d : List D} {v : List V} (h : RVs T M H d v) : RVs T M' H' d v := h.mo x.mo
theorem EOk.mo {ρ : DEnv} {σ : L2.St} (x : Mo M H M' H') (h : EOk T M H ρ σ) : EOk T M' H' ρ σ :=
  ⟨h.len, fun i d e => let ⟨v, e1, r⟩ := h.val i d e; ⟨v, e1, r.mo x⟩⟩
theorem EOk.ex {ρ : DEnv} {σ : L2.St} (x : Ex M H M' H') (h : EOk T M H ρ σ) : EOk T M' H' ρ σ := h.mo x.mo
theorem paired_imp {α β : Type} {F G : α → β → Prop} : ∀ {l₁ : List α} {l₂ : List β}, Paired F l₁ l₂ → (∀ a b, F a b → G a b) → Paired G l₁ l₂
  | _, _, .nil, _ => .nil
  | _, _, .cons r t, f => .cons (f _ _ r) (paired_imp t f)
/-- an object's data where its own cell and the data stand -/
theorem RO.mo {o : DObj} (h : RO T M H o a) (x : Mo M H M' H') (ha : ∀ u, H a = some u → H' a = some u) : RO T M' H' o a := by
  cases o with
  | lst xs => obtain ⟨vs, e, r⟩ := h; exact ⟨vs, ha _ e, r.mo x⟩
  | ins c fs =>
    obtain ⟨C, dx, vs, e1, e2, e3, r⟩ := h
    exact ⟨C, dx, vs, e1, e2, ha _ e3, r.mo x⟩
  | dct t kvs =>
    rcases h with ⟨ht, ks, e, r⟩ | ⟨ht, ks, e, r⟩
    · exact .inl ⟨ht, ks, ha _ e, r.mo x⟩
    · exact .inr ⟨ht, ks, ha _ e, r.mo x⟩
  | dead => obtain ⟨u, e, r⟩ := h; exact ⟨u, ha _ e, r⟩
theorem RVs.len : ∀ {d : List D} {v : List V}, RVs T M H d v → v.length = d.length
  | [], _, h => by simp only [RVs] at h; simp [h]
  | d :: ds, _, h => by
    simp only [RVs] at h
    obtain ⟨v, ws, rfl, h1, h2⟩ := h
    simp [RVs.len h2]
theorem RK.len : ∀ {d : List (D × D)} {v : List (Key × V)}, RK T M H d v → v.length = d.length
  | [], _, h => by simp only [RK] at h; simp [h]
  | (k, d) :: ds, _, h => by
    simp only [RK] at h
    obtain ⟨_, v, ws, rfl, _, h1, h2⟩ := h
    simp [RK.len h2]
theorem RN.len : ∀ {d : List (D × D)} {v : List (NestedKey × Addr × V)}, RN T M H d v → v.length = d.length
  | [], _, h => by simp only [RN] at h; simp [h]
  | (k, d) :: ds, _, h => by
    simp only [RN] at h
    obtain ⟨_, _, v, ws, rfl, _, _, _, h1, h2⟩ := h
    simp [RN.len h2]
theorem RF.len {C : Addr} : ∀ {d : List (Nat × D)} {v : List (Str × V)}, RF T M H C d v → v.length = d.length
  | [], _, h => by simp only [RF] at h; simp [h]
  | (k, d) :: ds, _, h => by
    simp only [RF] at h
    obtain ⟨_, v, ws, rfl, _, _, h1, h2⟩ := h
    simp [RF.len h2]
theorem RVs.get : ∀ {d : List D} {v : List V} {i : Nat} {x : D}, RVs T M H d v → d[i]? = some x → ∃ y, v[i]? = some y ∧ RV T M H x y
  | [], _, _, _, h, e => by simp at e
  | d :: ds, _, 0, x, h, e => by
    simp only [RVs] at h
    obtain ⟨v, ws, rfl, h1, h2⟩ := h
    simp at e; subst e
    exact ⟨v, rfl, h1⟩
  | d :: ds, _, i + 1, x, h, e => by
    simp only [RVs] at h
    obtain ⟨v, ws, rfl, h1, h2⟩ := h
    obtain ⟨y, e1, r⟩ := RVs.get (i := i) (x := x) h2 (by simpa using e)
    exact ⟨y, by simpa using e1, r⟩
theorem RVs.getV : ∀ {d : List D} {v : List V} {i : Nat} {y : V}, RVs T M H d v → v[i]? = some y → ∃ x, d[i]? = some x ∧ RV T M H x y := fun {d v i y} h e => by
  have hl := h.len
  have hi := (List.getElem?_eq_some_iff.mp e).1
  obtain ⟨z, e1, r⟩ := h.get (List.getElem?_eq_getElem (by omega : i < d.length))
  rw [e] at e1; cases e1
  exact ⟨_, List.getElem?_eq_getElem (by omega), r⟩
theorem RVs.app : ∀ {d e : List D} {v u : List V}, RVs T M H d v → RVs T M H e u → RVs T M H (d ++ e) (v ++ u)
  | [], _, _, _, h, k => by simp only [RVs] at h; subst h; exact k
  | d :: ds, _, _, _, h, k => by
    simp only [RVs] at h
    obtain ⟨v, ws, rfl, h1, h2⟩ := h
    show RVs T M H (d :: (ds ++ _)) _
    simp only [RVs]
    exact ⟨v, _, rfl, h1, RVs.app h2 k⟩
theorem RVs.one {d : D} {v : V} (h : RV T M H d v) : RVs T M H [d] [v] := by simp only [RVs]; exact ⟨v, [], rfl, h, rfl⟩
theorem RVs.cons {d : D} {v : V} {ds : List D} {vs : List V} (h : RV T M H d v) (k : RVs T M H ds vs) : RVs T M H (d :: ds) (v :: vs) := by simp only [RVs]; exact ⟨v, vs, rfl, h, k⟩
theorem RVs.set : ∀ {d : List D} {v : List V} {x : D} {y : V} (i : Nat), RVs T M H d v → RV T M H x y → RVs T M H (d.set i x) (v.set i y)
  | [], _, _, _, _, h, k => by simp only [RVs] at h; subst h; simp [RVs]
  | d :: ds, _, _, _, 0, h, k => by
    simp only [RVs] at h
    obtain ⟨v, ws, rfl, h1, h2⟩ := h
    simp only [List.set_cons_zero, RVs]
    exact ⟨_, _, rfl, k, h2⟩
  | d :: ds, _, _, _, i + 1, h, k => by
    simp only [RVs] at h
    obtain ⟨v, ws, rfl, h1, h2⟩ := h
    simp only [List.set_cons_succ, RVs]
    exact ⟨_, _, rfl, h1, RVs.set i h2 k⟩
theorem RVs.take : ∀ {d : List D} {v : List V} (n : Nat), RVs T M H d v → RVs T M H (d.take n) (v.take n)
  | _, _, 0, _ => by simp [RVs]
  | [], _, _ + 1, h => by simp only [RVs] at h; subst h; simp [RVs]
  | d :: ds, _, n + 1, h => by
    simp only [RVs] at h
    obtain ⟨v, ws, rfl, h1, h2⟩ := h
    simp only [List.take_succ_cons, RVs]
    exact ⟨_, _, rfl, h1, RVs.take n h2⟩
theorem RVs.drop : ∀ {d : List D} {v : List V} (n : Nat), RVs T M H d v → RVs T M H (d.drop n) (v.drop n)
  | _, _, 0, h => by simpa using h
  | [], _, _ + 1, h => by simp only [RVs] at h; subst h; simp [RVs]
  | d :: ds, _, n + 1, h => by
    simp only [RVs] at h
    obtain ⟨v, ws, rfl, h1, h2⟩ := h
    simpa using RVs.drop n h2
theorem RVs.rev : ∀ {d : List D} {v : List V}, RVs T M H d v → RVs T M H d.reverse v.reverse
  | [], _, h => by simp only [RVs] at h; subst h; simp [RVs]
  | d :: ds, _, h => by
    simp only [RVs] at h
    obtain ⟨v, ws, rfl, h1, h2⟩ := h
    rw [List.reverse_cons, List.reverse_cons]
    exact h2.rev.app (RVs.one h1)

/-! ### the store's moves -/
/-- what stands at an address of the store -/
theorem RO.some {d : DObj} (r : RO T M H d a) : ∃ u, H a = some u ∧ (∀ xs, u ≠ .tup xs) ∧ ∀ o w, u ≠ .frz o w := by
  cases d with
  | lst xs => obtain ⟨vs, e, _⟩ := r; exact ⟨_, e, by simp, by simp⟩
  | ins c fs => obtain ⟨C, dx, vs, _, _, e, _⟩ := r; exact ⟨_, e, by simp, by simp⟩
  | dct t kvs => rcases r with ⟨_, ks, e, _⟩ | ⟨_, ks, e, _⟩ <;> exact ⟨_, e, by simp, by simp⟩
  | dead => exact r
theorem SOk.at (s : SOk T M H st) {n : Nat} (h : M.l[n]? = some a) : ∃ o, st[n]? = some o ∧ RO T M H o a := by
  have hn := (List.getElem?_eq_some_iff.mp h).1
  have e : st[n]? = some (st[n]'(by rw [← s.len]; exact hn)) := List.getElem?_eq_getElem _
  exact ⟨_, e, s.ro n _ a e h⟩
theorem SOk.mem (s : SOk T M H st) (h : a ∈ M.l) : ∃ u, H a = some u ∧ (∀ xs, u ≠ .tup xs) ∧ ∀ o w, u ≠ .frz o w := by
  obtain ⟨n, hn⟩ := List.getElem?_of_mem h
  obtain ⟨o, _, r⟩ := s.at hn
  exact r.some
theorem SOk.nl (s : SOk T M H st) (hp : H a = none) : a ∉ M.l := fun h => by
  obtain ⟨u, e, _⟩ := s.mem h
  rw [hp] at e; cases e
theorem SOk.there (s : SOk T M H st) {n : Nat} {o : DObj} (h : st[n]? = some o) : ∃ a, M.l[n]? = some a ∧ RO T M H o a := by
  have hn := (List.getElem?_eq_some_iff.mp h).1
  have e : M.l[n]? = some (M.l[n]'(by rw [s.len]; exact hn)) := List.getElem?_eq_getElem _
  exact ⟨_, e, s.ro n o _ h e⟩
theorem SOk.fresh (s : SOk T M H st) (hp : H a = none) : Fr M a := ⟨s.nl hp, fun h => by
    obtain ⟨o, e⟩ := s.bld a h
    rw [hp] at e; cases e⟩
/-- a new untracked thing (a tuple, ..) -/
theorem ex_new {o : HO} (hp : H a = none) : Ex M H M (upd H a o) :=
  ⟨⟨[], by simp⟩, rfl, fun b u h _ => by rw [upd_ne (ne_of_none h hp)]; exact h, fun b h n => absurd h n⟩
theorem upd_some {o : HO} {b : Addr} (h : ∃ u, H b = some u) : ∃ u, upd H a o b = some u := by
  by_cases z : b = a
  · subst z; exact ⟨_, upd_same⟩
  · obtain ⟨u, h⟩ := h
    exact ⟨u, by rw [upd_ne z]; exact h⟩
theorem sok_new {o : HO} (s : SOk T M H st) (hp : H a = none) : SOk T M (upd H a o) st :=
  ⟨s.len, fun i ob b e1 e2 => (s.ro i ob b e1 e2).mo (ex_new hp).mo fun u z => by rw [upd_ne (ne_of_none z hp)]; exact z, s.inj, s.dis, fun b hb => upd_some (s.bld b hb)⟩
/-- a new object enters the store -/
theorem ex_alloc {o : HO} (s : SOk T M H st) (hp : H a = none) : Ex M H (M.add a) (upd H a o) := by
  refine ⟨⟨[a], rfl⟩, rfl, fun b u h _ => by rw [upd_ne (ne_of_none h hp)]; exact h, fun b h n => ?_⟩
  rcases List.mem_append.mp h with z | z
  · exact absurd z n
  · rw [List.mem_singleton.mp z]; exact ⟨hp, (s.fresh hp).2⟩
theorem get_snoc {α : Type} {xs : List α} {y z : α} {i : Nat} (h : (xs ++ [y])[i]? = some z) : xs[i]? = some z ∨ (i = xs.length ∧ z = y) := by
  by_cases hi : i < xs.length
  · rw [List.getElem?_append_left hi] at h; exact .inl h
  · rw [List.getElem?_append_right (by omega)] at h
    have : i - xs.length = 0 := by
      cases e : i - xs.length with
      | zero => rfl
      | succ n => rw [e] at h; simp at h
    rw [this] at h
    simp at h
    exact .inr ⟨by omega, h.symm⟩
theorem inj_snoc {l : List Addr} (h : ∀ (i j : Nat) (b : Addr), l[i]? = some b → l[j]? = some b → i = j) (hn : a ∉ l) : ∀ (i j : Nat) (b : Addr), (l ++ [a])[i]? = some b → (l ++ [a])[j]? = some b → i = j := fun i j b e1 e2 => by
  rcases get_snoc e1 with f1 | ⟨i1, z1⟩ <;> rcases get_snoc e2 with f2 | ⟨i2, z2⟩
  · exact h i j b f1 f2
  · rw [z2] at f1; exact absurd (List.mem_of_getElem? f1) hn
  · rw [z1] at f2; exact absurd (List.mem_of_getElem? f2) hn
  · rw [i1, i2]
/-- an object at an address that was neither, or was being built, enters the store -/
theorem sok_snoc {d : DObj} {x : List Addr} (s : SOk T M H st) (x0 : Mo M H ⟨M.l ++ [a], x⟩ H') (k : ∀ b u, b ∈ M.l → H b = some u → H' b = some u) (hn : a ∉ M.l) (hx : ∀ b ∈ x, b ∈ M.x ∧ b ≠ a) (hb : ∀ b ∈ x, ∃ o, H' b = some o)
    (r : RO T ⟨M.l ++ [a], x⟩ H' d a) : SOk T ⟨M.l ++ [a], x⟩ H' (st ++ [d]) := by
  have hl := s.len
  refine ⟨by simp [hl], fun i ob b e1 e2 => ?_, inj_snoc s.inj hn, fun b h1 h2 => ?_, hb⟩
  · rcases get_snoc e1 with e1 | ⟨rfl, rfl⟩
    · have hi := (List.getElem?_eq_some_iff.mp e1).1
      have e2 : (M.l ++ [a])[i]? = some b := e2
      rw [List.getElem?_append_left (by omega)] at e2
      exact (s.ro i ob b e1 e2).mo x0 fun u z => k b u (List.mem_of_getElem? e2) z
    · have e2 : (M.l ++ [a])[st.length]? = some b := e2
      rw [← hl] at e2
      simp at e2
      subst e2
      exact r
  · obtain ⟨h3, h4⟩ := hx b h2
    rcases List.mem_append.mp h1 with z | z
    · exact s.dis b z h3
    · exact h4 (List.mem_singleton.mp z)
theorem sok_alloc {o : HO} {d : DObj} (s : SOk T M H st) (hp : H a = none) (r : RO T (M.add a) (upd H a o) d a) : SOk T (M.add a) (upd H a o) (st ++ [d]) :=
  sok_snoc (x := M.x) s (ex_alloc s hp).mo (fun b u _ z => by rw [upd_ne (ne_of_none z hp)]; exact z) (s.nl hp) (fun b hb => ⟨hb, fun z => (s.fresh hp).2 (z ▸ hb)⟩) (fun b hb => upd_some (s.bld b hb)) r
/-- an object of the store is written -/
theorem ex_write {o : HO} (h : a ∈ M.l) : Ex M H M (upd H a o) := by
  refine ⟨⟨[], by simp⟩, rfl, fun b w z hb => ?_, fun b h n => absurd h n⟩
  rw [upd_ne]; exact z
  rintro rfl; exact hb h
theorem sok_write {n : Nat} {d' : DObj} {o : HO} (s : SOk T M H st) (h2 : M.l[n]? = some a) (r : RO T M (upd H a o) d' a) : SOk T M (upd H a o) (st.set n d') := by
  have hm := List.mem_of_getElem? h2
  have hn : n < st.length := by rw [← s.len]; exact (List.getElem?_eq_some_iff.mp h2).1
  refine ⟨by rw [List.length_set]; exact s.len, fun i ob b e1 e2 => ?_, s.inj, s.dis, fun b hb => upd_some (s.bld b hb)⟩
  by_cases hi : i = n
  · subst hi
    rw [h2] at e2; cases e2
    rw [List.getElem?_set_self hn] at e1; cases e1
    exact r
  · rw [List.getElem?_set_ne (Ne.symm hi)] at e1
    refine (s.ro i ob b e1 e2).mo (ex_write hm).mo fun w z => ?_
    rw [upd_ne]; exact z
    rintro rfl; exact hi (s.inj i n _ e2 h2)
theorem upd_tup_ok {xs : List D} {vs : List V} {p : Addr} (s : SOk T M H st) (r : RVs T M H xs vs) (hp : H p = none) :
    SOk T M (upd H p (.tup vs)) st ∧ Ex M H M (upd H p (.tup vs)) ∧ RV T M (upd H p (.tup vs)) (.tup xs) (.ref p) :=
  ⟨sok_new s hp, ex_new hp, by simp only [RV]; exact ⟨p, vs, rfl, s.fresh hp, upd_same, r.ex (ex_new hp)⟩⟩
theorem upd_lst_ok {xs : List D} {vs : List V} {p : Addr} (s : SOk T M H st) (r : RVs T M H xs vs) (hp : H p = none) :
    SOk T M (upd H p (.lst vs)) st ∧ Ex M H M (upd H p (.lst vs)) ∧ RV T M (upd H p (.lst vs)) (.lst xs) (.ref p) :=
  ⟨sok_new s hp, ex_new hp, by simp only [RV]; exact ⟨p, vs, rfl, s.fresh hp, upd_same, r.ex (ex_new hp)⟩⟩
theorem new_ok {o : HO} {d : DObj} {p : Addr} (s : SOk T M H st) (hp : H p = none) (r : RO T (M.add p) (upd H p o) d p) :
    SOk T (M.add p) (upd H p o) (st ++ [d]) ∧ Ex M H (M.add p) (upd H p o) ∧ RV T (M.add p) (upd H p o) (.ref st.length) (.ref p) :=
  ⟨sok_alloc s hp r, ex_alloc s hp, by simp only [RV]; exact ⟨p, rfl, by rw [← s.len]; simp⟩⟩
theorem new_lst_ok {xs : List D} {vs : List V} {p : Addr} (s : SOk T M H st) (r : RVs T M H xs vs) (hp : H p = none) :
    SOk T (M.add p) (upd H p (.lst vs)) (st ++ [.lst xs]) ∧ Ex M H (M.add p) (upd H p (.lst vs)) ∧ RV T (M.add p) (upd H p (.lst vs)) (.ref st.length) (.ref p) :=
  new_ok s hp ⟨vs, upd_same, r.ex (ex_alloc s hp)⟩
end

/-! ### what stood behind a mark of the store, told by value -/
mutual
def rs (lo : Nat) (lk : Nat → Option D) : D → Option D
  | .tup xs => (rss lo lk xs).map .tup
  | .lst xs => (rss lo lk xs).map .lst
  | .dct t kvs => (rsk lo lk kvs).map (.dct t)
  | .ins c fs => (rsf lo lk fs).map (.ins c)
  | .exv c fs => (rsf lo lk fs).map (.exv c)
  | .ref n => if n < lo then some (.ref n) else lk n
  | .non => some .non
  | .bl b => some (.bl b)
  | .int i => some (.int i)
  | .str s => some (.str s)
  | .scr ns => some (.scr ns)
def rss (lo : Nat) (lk : Nat → Option D) : List D → Option (List D)
  | [] => some []
  | x :: xs => (rs lo lk x).bind fun a => (rss lo lk xs).map fun b => a :: b
def rsk (lo : Nat) (lk : Nat → Option D) : List (D × D) → Option (List (D × D))
  | [] => some []
  | (k, x) :: xs => (rs lo lk k).bind fun q => if q = k then (rs lo lk x).bind fun a => (rsk lo lk xs).map fun b => (k, a) :: b else none
def rsf (lo : Nat) (lk : Nat → Option D) : List (Nat × D) → Option (List (Nat × D))
  | [] => some []
  | (k, x) :: xs => (rs lo lk x).bind fun a => (rsf lo lk xs).map fun b => (k, a) :: b
end
def rlk (lo : Nat) (st : DSto) (lk : Nat → Option D) (n : Nat) : Option D := match st[n]? with
  | some (.lst xs) => (rss lo lk xs).map .lst
  | some (.ins c fs) => (rsf lo lk fs).map (.ins c)
  | some (.dct t kvs) => (rsk lo lk kvs).map (.dct t)
  | _ => none
def fzK (lo : Nat) (st : DSto) : Nat → Option D := rlk lo st (rlk lo st (rlk lo st (rlk lo st fun _ => none)))
/-- d with all that stands from lo on told by value -/
def fzD (lo : Nat) (st : DSto) (d : D) : Option D := rs lo (fzK lo st) d
def fzO (lo : Nat) (st : DSto) : DObj → Option DObj
  | .lst xs => (rss lo (fzK lo st) xs).map .lst
  | .ins c fs => (rsf lo (fzK lo st) fs).map (.ins c)
  | .dct t kvs => (rsk lo (fzK lo st) kvs).map (.dct t)
  | .dead => some .dead
section
variable {T : Tb} {M M' : Mu} {H : Hp} {st : DSto} {lo : Nat} {lk : Nat → Option D}
/-- M' without what stands from lo on -/
structure Cutd (lo : Nat) (M' M : Mu) : Prop where
  l : M.l = M'.l.take lo
  x : M.x = M'.x
theorem Cutd.fr (c : Cutd lo M' M) {a : Addr} (h : Fr M' a) : Fr M a := ⟨fun z => h.1 (by rw [c.l] at z; exact List.mem_of_mem_take z), fun z => h.2 (by rw [← c.x]; exact z)⟩
def LkV (T : Tb) (M' M : Mu) (H : Hp) (lk : Nat → Option D) (lo : Nat) : Prop := ∀ n d a, lo ≤ n → lk n = some d → M'.l[n]? = some a → RV T M H d (.ref a)
mutual
theorem rs_ok (c : Cutd lo M' M) (h : LkV T M' M H lk lo) : ∀ {d e : D} {v : V}, rs lo lk d = some e → RV T M' H d v → RV T M H e v
  | .non, e, v, q, r => by simp only [rs, Option.some.injEq] at q; subst q; simpa [RV] using r
  | .bl b, e, v, q, r => by simp only [rs, Option.some.injEq] at q; subst q; simpa [RV] using r
  | .int b, e, v, q, r => by simp only [rs, Option.some.injEq] at q; subst q; simpa [RV] using r
  | .str b, e, v, q, r => by simp only [rs, Option.some.injEq] at q; subst q; simpa [RV] using r
  | .scr b, e, v, q, r => by
    simp only [rs, Option.some.injEq] at q; subst q
    simp only [RV] at r ⊢
    obtain ⟨a, e, r⟩ := r
    exact ⟨a, e, r.imp (fun ⟨o, f, z⟩ => ⟨o, c.fr f, z⟩) id⟩
  | .tup xs, e, v, q, r => by
    simp only [rs, Option.map_eq_some_iff] at q
    obtain ⟨ys, q, rfl⟩ := q
    simp only [RV] at r ⊢
    obtain ⟨a, vs, e, f, h1, h2⟩ := r
    exact ⟨a, vs, e, c.fr f, h1, rss_ok c h q h2⟩
  | .lst xs, e, v, q, r => by
    simp only [rs, Option.map_eq_some_iff] at q
    obtain ⟨ys, q, rfl⟩ := q
    simp only [RV] at r ⊢
    obtain ⟨a, vs, e, f, h1, h2⟩ := r
    exact ⟨a, vs, e, c.fr f, h1, rss_ok c h q h2⟩
  | .dct t xs, e, v, q, r => by
    simp only [rs, Option.map_eq_some_iff] at q
    obtain ⟨ys, q, rfl⟩ := q
    simp only [RV] at r ⊢
    obtain ⟨a, e, f, ⟨ht, ks, h1, h2⟩ | ⟨ht, ks, h1, h2⟩⟩ := r
    · exact ⟨a, e, c.fr f, .inl ⟨ht, ks, h1, rsk_ok c h q h2⟩⟩
    · exact ⟨a, e, c.fr f, .inr ⟨ht, ks, h1, rsn_ok c h q h2⟩⟩
  | .ins k xs, e, v, q, r => by
    simp only [rs, Option.map_eq_some_iff] at q
    obtain ⟨ys, q, rfl⟩ := q
    simp only [RV] at r ⊢
    obtain ⟨a, C, dx, vs, e, f, hC, hc, h1, h2⟩ := r
    exact ⟨a, C, dx, vs, e, c.fr f, hC, hc, h1, rsf_ok c h q h2⟩
  | .exv k xs, e, v, q, r => by
    simp only [rs, Option.map_eq_some_iff] at q
    obtain ⟨ys, q, rfl⟩ := q
    simp only [RV] at r ⊢
    obtain ⟨a, dd, vs, e, e2, f, h1, h2⟩ := r
    exact ⟨a, dd, vs, e, e2, c.fr f, h1, rsx_ok c h q h2⟩
  | .ref n, e, v, q, r => by
    simp only [RV] at r
    obtain ⟨a, rfl, e1⟩ := r
    unfold rs at q
    by_cases hn : n < lo
    · rw [if_pos hn] at q
      cases q
      simp only [RV]
      exact ⟨a, rfl, by rw [c.l, List.getElem?_take_of_lt hn]; exact e1⟩
    · rw [if_neg hn] at q
      exact h n e a (by omega) q e1
theorem rss_ok (c : Cutd lo M' M) (h : LkV T M' M H lk lo) : ∀ {d e : List D} {v : List V}, rss lo lk d = some e → RVs T M' H d v → RVs T M H e v
  | [], e, v, q, r => by simp only [rss, Option.some.injEq] at q; subst q; simpa [RVs] using r
  | x :: xs, e, v, q, r => by
    simp only [rss] at q
    obtain ⟨a, q1, q⟩ := Option.bind_eq_some_iff.mp q
    obtain ⟨b, q2, rfl⟩ := Option.map_eq_some_iff.mp q
    simp only [RVs] at r ⊢
    obtain ⟨v, ws, e, h1, h2⟩ := r
    exact ⟨v, ws, e, rs_ok c h q1 h1, rss_ok c h q2 h2⟩
theorem rsk_ok (c : Cutd lo M' M) (h : LkV T M' M H lk lo) : ∀ {d e : List (D × D)} {v : List (Key × V)}, rsk lo lk d = some e → RK T M' H d v → RK T M H e v
  | [], e, v, q, r => by simp only [rsk, Option.some.injEq] at q; subst q; simpa [RK] using r
  | (k, x) :: xs, e, v, q, r => by
    simp only [rsk] at q
    obtain ⟨k', q0, q⟩ := Option.bind_eq_some_iff.mp q
    by_cases hk : k' = k
    · rw [if_pos hk] at q
      obtain ⟨a, q1, q⟩ := Option.bind_eq_some_iff.mp q
      obtain ⟨b, q2, rfl⟩ := Option.map_eq_some_iff.mp q
      simp only [RK] at r ⊢
      obtain ⟨kk, v, ws, e, e2, h1, h2⟩ := r
      exact ⟨kk, v, ws, e, e2, rs_ok c h q1 h1, rsk_ok c h q2 h2⟩
    · rw [if_neg hk] at q; cases q
theorem rsn_ok (c : Cutd lo M' M) (h : LkV T M' M H lk lo) : ∀ {d e : List (D × D)} {v : List (NestedKey × Addr × V)}, rsk lo lk d = some e → RN T M' H d v → RN T M H e v
  | [], e, v, q, r => by simp only [rsk, Option.some.injEq] at q; subst q; simpa [RN] using r
  | (k, x) :: xs, e, v, q, r => by
    simp only [rsk] at q
    obtain ⟨k', q0, q⟩ := Option.bind_eq_some_iff.mp q
    by_cases hk : k' = k
    · rw [if_pos hk] at q
      subst hk
      obtain ⟨a, q1, q⟩ := Option.bind_eq_some_iff.mp q
      obtain ⟨b, q2, rfl⟩ := Option.map_eq_some_iff.mp q
      simp only [RN] at r ⊢
      obtain ⟨kk, b, v, ws, e, e2, e3, h0, h1, h2⟩ := r
      exact ⟨kk, b, v, ws, e, e2, e3, rs_ok c h q0 h0, rs_ok c h q1 h1, rsn_ok c h q2 h2⟩
    · rw [if_neg hk] at q; cases q
theorem rsf_ok (c : Cutd lo M' M) (h : LkV T M' M H lk lo) {C : Addr} : ∀ {d e : List (Nat × D)} {v : List (Str × V)}, rsf lo lk d = some e → RF T M' H C d v → RF T M H C e v
  | [], e, v, q, r => by simp only [rsf, Option.some.injEq] at q; subst q; simpa [RF] using r
  | (k, x) :: xs, e, v, q, r => by
    simp only [rsf] at q
    obtain ⟨a, q1, q⟩ := Option.bind_eq_some_iff.mp q
    obtain ⟨b, q2, rfl⟩ := Option.map_eq_some_iff.mp q
    simp only [RF] at r ⊢
    obtain ⟨kk, v, ws, e, e2, e3, h1, h2⟩ := r
    exact ⟨kk, v, ws, e, e2, e3, rs_ok c h q1 h1, rsf_ok c h q2 h2⟩
theorem rsx_ok (c : Cutd lo M' M) (h : LkV T M' M H lk lo) : ∀ {d e : List (Nat × D)} {v : List (Str × V)}, rsf lo lk d = some e → RX T M' H d v → RX T M H e v
  | [], e, v, q, r => by simp only [rsf, Option.some.injEq] at q; subst q; simpa [RX] using r
  | (k, x) :: xs, e, v, q, r => by
    simp only [rsf] at q
    obtain ⟨a, q1, q⟩ := Option.bind_eq_some_iff.mp q
    obtain ⟨b, q2, rfl⟩ := Option.map_eq_some_iff.mp q
    simp only [RX] at r ⊢
    obtain ⟨kk, v, ws, e, e2, h1, h2⟩ := r
    exact ⟨kk, v, ws, e, e2, rs_ok c h q1 h1, rsx_ok c h q2 h2⟩
end
/-- an object from lo on is in the cut store no more -/
theorem SOk.cut_fr (s : SOk T M' H st) (c : Cutd lo M' M) {n : Nat} {a : Addr} (hn : lo ≤ n) (h : M'.l[n]? = some a) : Fr M a := by
  refine ⟨fun z => ?_, fun z => s.dis a (List.mem_of_getElem? h) (by rw [← c.x]; exact z)⟩
  rw [c.l] at z
  obtain ⟨i, hi⟩ := List.getElem?_of_mem z
  have hl : i < lo := by
    have := (List.getElem?_eq_some_iff.mp hi).1
    rw [List.length_take] at this
    omega
  rw [List.getElem?_take_of_lt hl] at hi
  have := s.inj i n a hi h
  omega
theorem rlk_ok (s : SOk T M' H st) (c : Cutd lo M' M) (h : LkV T M' M H lk lo) : LkV T M' M H (rlk lo st lk) lo := fun n d a hn e e1 => by
  unfold rlk at e
  have f := s.cut_fr c hn e1
  cases q : st[n]? with
  | none => rw [q] at e; cases e
  | some o =>
    rw [q] at e
    have ro := s.ro n o a q e1
    cases o with
    | lst xs =>
      obtain ⟨ys, e2, rfl⟩ := Option.map_eq_some_iff.mp e
      obtain ⟨vs, e3, r⟩ := ro
      simp only [RV]
      exact ⟨a, vs, rfl, f, e3, rss_ok c h e2 r⟩
    | ins k xs =>
      obtain ⟨ys, e2, rfl⟩ := Option.map_eq_some_iff.mp e
      obtain ⟨C, dx, vs, hC, hc, e3, r⟩ := ro
      simp only [RV]
      exact ⟨a, C, dx, vs, rfl, f, hC, hc, e3, rsf_ok c h e2 r⟩
    | dct t xs =>
      obtain ⟨ys, e2, rfl⟩ := Option.map_eq_some_iff.mp e
      simp only [RV]
      rcases ro with ⟨ht, ks, e3, r⟩ | ⟨ht, ks, e3, r⟩
      · exact ⟨a, rfl, f, .inl ⟨ht, ks, e3, rsk_ok c h e2 r⟩⟩
      · exact ⟨a, rfl, f, .inr ⟨ht, ks, e3, rsn_ok c h e2 r⟩⟩
    | dead => cases e
theorem fzK_ok (s : SOk T M' H st) (c : Cutd lo M' M) : LkV T M' M H (fzK lo st) lo :=
  rlk_ok s c (rlk_ok s c (rlk_ok s c (rlk_ok s c fun _ _ _ _ e => by cases e)))
theorem fzD_ok (s : SOk T M' H st) (c : Cutd lo M' M) {d e : D} {v : V} (q : fzD lo st d = some e) (r : RV T M' H d v) : RV T M H e v := rs_ok c (fzK_ok s c) q r
theorem fzO_ok (s : SOk T M' H st) (c : Cutd lo M' M) {d e : DObj} {a : Addr} (q : fzO lo st d = some e) (r : RO T M' H d a) : RO T M H e a := by
  cases d with
  | lst xs =>
    obtain ⟨ys, e2, rfl⟩ := Option.map_eq_some_iff.mp q
    obtain ⟨vs, e3, r⟩ := r
    exact ⟨vs, e3, rss_ok c (fzK_ok s c) e2 r⟩
  | ins k xs =>
    obtain ⟨ys, e2, rfl⟩ := Option.map_eq_some_iff.mp q
    obtain ⟨C, dx, vs, hC, hc, e3, r⟩ := r
    exact ⟨C, dx, vs, hC, hc, e3, rsf_ok c (fzK_ok s c) e2 r⟩
  | dct t xs =>
    obtain ⟨ys, e2, rfl⟩ := Option.map_eq_some_iff.mp q
    rcases r with ⟨ht, ks, e3, r⟩ | ⟨ht, ks, e3, r⟩
    · exact .inl ⟨ht, ks, e3, rsk_ok c (fzK_ok s c) e2 r⟩
    · exact .inr ⟨ht, ks, e3, rsn_ok c (fzK_ok s c) e2 r⟩
  | dead => cases q; exact r
end
/-! data that stand below a mark are left as they are -/
section
variable {T : Tb} {M M0 : Mu} {H H0 : Hp} {lo : Nat} {lk : Nat → Option D}
mutual
theorem rs_low (hl : M.l.length ≤ lo) : ∀ {d : D} {v : V}, RV T M H d v → rs lo lk d = some d
  | .non, _, _ => rfl
  | .bl _, _, _ => rfl
  | .int _, _, _ => rfl
  | .str _, _, _ => rfl
  | .scr _, _, _ => rfl
  | .tup xs, _, r => by
    simp only [RV] at r
    obtain ⟨a, vs, _, _, _, r⟩ := r
    simp only [rs, rss_low hl r, Option.map_some]
  | .lst xs, _, r => by
    simp only [RV] at r
    obtain ⟨a, vs, _, _, _, r⟩ := r
    simp only [rs, rss_low hl r, Option.map_some]
  | .dct t xs, _, r => by
    simp only [RV] at r
    obtain ⟨a, _, _, ⟨_, ks, _, r⟩ | ⟨_, ks, _, r⟩⟩ := r
    · simp only [rs, rsk_low hl r, Option.map_some]
    · simp only [rs, rsn_low hl r, Option.map_some]
  | .ins c xs, _, r => by
    simp only [RV] at r
    obtain ⟨a, C, dx, vs, _, _, _, _, _, r⟩ := r
    simp only [rs, rsf_low hl r, Option.map_some]
  | .exv c xs, _, r => by
    simp only [RV] at r
    obtain ⟨a, dx, vs, _, _, _, _, r⟩ := r
    simp only [rs, rsx_low hl r, Option.map_some]
  | .ref n, _, r => by
    simp only [RV] at r
    obtain ⟨a, _, e⟩ := r
    have := (List.getElem?_eq_some_iff.mp e).1
    unfold rs
    rw [if_pos (by omega)]
theorem rss_low (hl : M.l.length ≤ lo) : ∀ {d : List D} {v : List V}, RVs T M H d v → rss lo lk d = some d
  | [], _, _ => rfl
  | x :: xs, _, r => by
    simp only [RVs] at r
    obtain ⟨v, ws, _, r1, r2⟩ := r
    simp only [rss, rs_low hl r1, rss_low hl r2, Option.bind_some, Option.map_some]
theorem rsk_low (hl : M.l.length ≤ lo) : ∀ {d : List (D × D)} {v : List (Key × V)}, RK T M H d v → rsk lo lk d = some d
  | [], _, _ => rfl
  | (k, x) :: xs, _, r => by
    simp only [RK] at r
    obtain ⟨q, v, ws, _, rfl, r1, r2⟩ := r
    have hk : rs lo lk (keyD q) = some (keyD q) := by cases q <;> rfl
    simp only [rsk, hk, rs_low hl r1, rsk_low hl r2, Option.bind_some, Option.map_some, if_true]
theorem rsn_low (hl : M.l.length ≤ lo) : ∀ {d : List (D × D)} {v : List (NestedKey × Addr × V)}, RN T M H d v → rsk lo lk d = some d
  | [], _, _ => rfl
  | (k, x) :: xs, _, r => by
    simp only [RN] at r
    obtain ⟨q, b, v, ws, _, _, _, r0, r1, r2⟩ := r
    simp only [rsk, rs_low hl r0, rs_low hl r1, rsn_low hl r2, Option.bind_some, Option.map_some, if_true]
theorem rsf_low (hl : M.l.length ≤ lo) {C : Addr} : ∀ {d : List (Nat × D)} {v : List (Str × V)}, RF T M H C d v → rsf lo lk d = some d
  | [], _, _ => rfl
  | (k, x) :: xs, _, r => by
    simp only [RF] at r
    obtain ⟨n, v, ws, _, _, _, r1, r2⟩ := r
    simp only [rsf, rs_low hl r1, rsf_low hl r2, Option.bind_some, Option.map_some]
theorem rsx_low (hl : M.l.length ≤ lo) : ∀ {d : List (Nat × D)} {v : List (Str × V)}, RX T M H d v → rsf lo lk d = some d
  | [], _, _ => rfl
  | (k, x) :: xs, _, r => by
    simp only [RX] at r
    obtain ⟨n, v, ws, _, _, r1, r2⟩ := r
    simp only [rsf, rs_low hl r1, rsx_low hl r2, Option.bind_some, Option.map_some]
end
theorem fzO_low (hl : M.l.length ≤ lo) {st : DSto} {d : DObj} {a : Addr} (r : RO T M H d a) : fzO lo st d = some d := by
  cases d with
  | lst xs => obtain ⟨vs, _, r⟩ := r; simp only [fzO, rss_low hl r, Option.map_some]
  | ins c xs => obtain ⟨C, dx, vs, _, _, _, r⟩ := r; simp only [fzO, rsf_low hl r, Option.map_some]
  | dct t xs =>
    rcases r with ⟨_, ks, _, r⟩ | ⟨_, ks, _, r⟩
    · simp only [fzO, rsk_low hl r, Option.map_some]
    · simp only [fzO, rsn_low hl r, Option.map_some]
  | dead => rfl
end
/-- the store st' cut to st's length: what did not change is as it was, the rest told by value -/
def popZ (lo : Nat) (st' : DSto) : DSto → DSto → Option DSto
  | [], _ => some []
  | _ :: _, [] => none
  | o :: os, p :: ps => if p = o then (popZ lo st' os ps).map (o :: ·) else (fzO lo st' p).bind fun q => (popZ lo st' os ps).map (q :: ·)
def popS (st st' : DSto) : Option DSto := popZ st.length st' st st'
section
variable {T : Tb} {M M' : Mu} {H H' : Hp} {st st' : DSto}
theorem popZ_len {lo : Nat} {st' : DSto} : ∀ {a b c : DSto}, popZ lo st' a b = some c → c.length = a.length
  | [], _, c, h => by cases h; rfl
  | _ :: _, [], c, h => by cases h
  | o :: os, p :: ps, c, h => by
    unfold popZ at h
    split at h
    · obtain ⟨d, h1, rfl⟩ := Option.map_eq_some_iff.mp h
      simp [popZ_len h1]
    · obtain ⟨q, _, h⟩ := Option.bind_eq_some_iff.mp h
      obtain ⟨d, h1, rfl⟩ := Option.map_eq_some_iff.mp h
      simp [popZ_len h1]
theorem popZ_get {lo : Nat} {st' : DSto} : ∀ {a b c : DSto} {i : Nat} {o : DObj}, popZ lo st' a b = some c → c[i]? = some o → ∃ p, b[i]? = some p ∧ ((a[i]? = some p ∧ o = p) ∨ fzO lo st' p = some o)
  | [], _, c, i, o, h, e => by cases h; simp at e
  | _ :: _, [], c, i, o, h, e => by cases h
  | x :: os, p :: ps, c, i, o, h, e => by
    unfold popZ at h
    split at h
    · rename_i hp
      obtain ⟨d, h1, rfl⟩ := Option.map_eq_some_iff.mp h
      cases i with
      | zero => simp at e; subst e; exact ⟨p, rfl, .inl ⟨by rw [hp]; rfl, hp.symm⟩⟩
      | succ i => simpa using popZ_get h1 (by simpa using e)
    · obtain ⟨q, hq, h⟩ := Option.bind_eq_some_iff.mp h
      obtain ⟨d, h1, rfl⟩ := Option.map_eq_some_iff.mp h
      cases i with
      | zero => simp at e; subst e; exact ⟨p, rfl, .inr hq⟩
      | succ i => simpa using popZ_get h1 (by simpa using e)
theorem Ex.cutd (x : Ex M H M' H') (hl : M.l.length = n) : Cutd n M' M := by
  obtain ⟨ν, e⟩ := x.pre
  exact ⟨by rw [e, ← hl]; simp, x.x.symm⟩
/-- the cut store is held -/
theorem pop_sok (s0 : SOk T M H st) (s : SOk T M' H' st') (x : Ex M H M' H') {st2 : DSto} (h : popS st st' = some st2) : SOk T M H' st2 ∧ Ex M H M H' := by
  have c : Cutd st.length M' M := x.cutd s0.len
  have hl := popZ_len h
  refine ⟨⟨by rw [hl]; exact s0.len, fun i o a e1 e2 => ?_, s0.inj, s0.dis, fun b hb => ?_⟩, ⟨[], by simp⟩, rfl, x.fr, fun a h n => absurd h n⟩
  · obtain ⟨p, e3, h3⟩ := popZ_get h e1
    have ro := s.ro i p a e3 (x.get e2)
    rcases h3 with ⟨e4, rfl⟩ | h3
    · -- unchanged: its data stand below
      have r0 := s0.ro i o a e4 e2
      exact fzO_ok s c (fzO_low (Nat.le_of_eq s0.len) (st := st') r0) ro
    · exact fzO_ok s c h3 ro
  · exact s.bld b (by rw [x.x]; exact hb)
end
end FV

set_option Elab.async false
set_option linter.all false
set_option maxRecDepth 100000
set_option maxHeartbeats 4000000
namespace FV
open PySem PySem.Spec PyProof.Rows L2

/-! ### what is wanted behind -/
def Post {α β : Type} (T : Tb) (R : Mu → Hp → α → β → Prop) (W : WX) (σ : L2.St) (M : Mu) (H : Hp) (r : DRes α) (Q : β → Hp → Prop) : Prop := match r with
  | .ok d st => ∀ M' v H', SOk T M' H' st → Ex M H M' H' → R M' H' d v → Q v H'
  | .exc c fs st => ∀ M' H' C dd xs, SOk T M' H' st → Ex M H M' H' → T.CT[c]? = some C → Fr M' dd → H' dd = some (.xd xs) → RX T M' H' fs xs → W (.ref C) (some dd) σ H'
  | .bad => False
abbrev RB : Mu → Hp → Bool → Bool → Prop := fun _ _ a b => a = b
section
variable {α β γ δ : Type} {T : Tb} {R : Mu → Hp → α → β → Prop} {R' : Mu → Hp → γ → δ → Prop} {W : WX} {σ : L2.St} {M M1 : Mu} {H H1 : Hp}
theorem Post.ex {r : DRes α} {Q : β → Hp → Prop} (h : Post T R W σ M H r Q) (x : Ex M H M1 H1) : Post T R W σ M1 H1 r Q := by
  cases r with
  | ok d st => exact fun M' v H' s y rr => h M' v H' s (x.trans y) rr
  | exc c fs st => exact fun M' H' C dd xs s y => h M' H' C dd xs s (x.trans y)
  | bad => exact h
theorem Post.bind {r : DRes α} {f : α → DSto → DRes γ} {Q : δ → Hp → Prop} (h : Post T R' W σ M H (r.bind f) Q) :
    Post T R W σ M H r (fun b H1 => ∃ M1 a st1, SOk T M1 H1 st1 ∧ Ex M H M1 H1 ∧ R M1 H1 a b ∧ Post T R' W σ M1 H1 (f a st1) Q) := by
  cases r with
  | ok d st => exact fun M' v H' s y rr => ⟨M', d, st, s, y, rr, Post.ex h y⟩
  | exc c fs st => exact h
  | bad => exact h
theorem Post.mono {r : DRes α} {Q Q' : β → Hp → Prop} (h : Post T R W σ M H r Q) (hq : ∀ v H', Q v H' → Q' v H') : Post T R W σ M H r Q' := by
  cases r with
  | ok d st => exact fun M' v H' s y rr => hq _ _ (h M' v H' s y rr)
  | exc c fs st => exact h
  | bad => exact h
end
/-- an operation on data: its answer and the store behind -/
abbrev OpD := D → D → DSto → Option (D × DSto)
def ofO {α : Type} : Option (α × DSto) → DRes α
  | some (a, st) => .ok a st
  | none => .bad
def PostO (T : Tb) (M : Mu) (H : Hp) (r : Option (D × DSto)) (Q : VK) : Prop := match r with
  | some (d, st) => ∀ M' v H', SOk T M' H' st → Ex M H M' H' → RV T M' H' d v → Q v H'
  | none => False
theorem PostO.of {T : Tb} {W : WX} {σ : L2.St} {M : Mu} {H : Hp} {r : Option (D × DSto)} {Q : VK} (h : Post T (RV T) W σ M H (ofO r) Q) : PostO T M H r Q := by
  cases r with
  | none => exact h
  | some p => exact h

/-! ### the judgements -/
def tI (T : Tb) (W : WX) (d : Den) : TE := fun σ H Q => ∃ M ρ st, SOk T M H st ∧ EOk T M H ρ σ ∧ Post T (RV T) W σ M H (d ρ st) Q
def tT (T : Tb) (W : WX) (d : DenT) : TT := fun σ H Q => ∃ M ρ st, SOk T M H st ∧ EOk T M H ρ σ ∧ Post T RB W σ M H (d ρ st) Q
def tA (T : Tb) (W : WX) (d : DenA) : TA := fun σ H Q => ∃ M ρ st, SOk T M H st ∧ EOk T M H ρ σ ∧ Post T (RVs T) W σ M H (d ρ st) Q
def PostS (T : Tb) (W : WX) (D : Ends) (M : Mu) (H : Hp) (r : DStm) : Prop := match r with
  | .nx ρ st => ∀ M' σ' H', SOk T M' H' st → Ex M H M' H' → EOk T M' H' ρ σ' → D.nx σ' H'
  | .rt d st => ∀ M' v H', SOk T M' H' st → Ex M H M' H' → RV T M' H' d v → D.rt v H'
  | .bk ρ st => ∀ M' σ' H', SOk T M' H' st → Ex M H M' H' → EOk T M' H' ρ σ' → D.bk σ' H'
  | .ct ρ st => ∀ M' σ' H', SOk T M' H' st → Ex M H M' H' → EOk T M' H' ρ σ' → D.ct σ' H'
  | .exc c fs ρ st => ∀ M' σ' H' C dd xs, SOk T M' H' st → Ex M H M' H' → EOk T M' H' ρ σ' → T.CT[c]? = some C → Fr M' dd → H' dd = some (.xd xs) → RX T M' H' fs xs → W (.ref C) (some dd) σ' H'
  | .bad => False
def tS (T : Tb) (W : WX) (d : DenS) : TS := fun D σ H => ∃ M ρ st, SOk T M H st ∧ EOk T M H ρ σ ∧ PostS T W D M H (d ρ st)
abbrev PX (X : Cx) (T : Tb) (W : WX) (e : Expr) (d : Den) : Prop := PE X e (tI T W d)
abbrev PTX (X : Cx) (T : Tb) (W : WX) (e : Expr) (d : DenT) : Prop := PT X e (tT T W d)
abbrev PWX (X : Cx) (T : Tb) (W : WX) (e : Expr) (d : DenT) : Prop := PW X e (tT T W d)
abbrev PAX (X : Cx) (T : Tb) (W : WX) (es : List Expr) (d : DenA) : Prop := PA X es (tA T W d)
abbrev PSX (X : Cx) (T : Tb) (W : WX) (st : Stmt) (d : DenS) : Prop := PS X st (tS T W d)
abbrev PSsX (X : Cx) (T : Tb) (W : WX) (st : List Stmt) (d : DenS) : Prop := PSs X st (tS T W d)
/-- the context fits the tables -/
structure Fits (X : Cx) (T : Tb) (W : WX) : Prop where
  K : X.K = T.K
  tk : Takes X W

section
variable {X : Cx} {T : Tb} {W : WX} {pos : Pos}
theorem pe_imp {e : Expr} {t t' : TE} (h : PE X e t) (f : ∀ σ H Q, t' σ H Q → t σ H Q) : PE X e t' := ⟨fun pins s σ H Q I q => h.run pins s σ H Q I (f σ H Q q)⟩
theorem pt_imp {e : Expr} {t t' : TT} (h : PT X e t) (f : ∀ σ H Q, t' σ H Q → t σ H Q) : PT X e t' := ⟨fun pins s σ H Q I q => h.run pins s σ H Q I (f σ H Q q)⟩
theorem pw_imp {e : Expr} {t t' : TT} (h : PW X e t) (f : ∀ σ H Q, t' σ H Q → t σ H Q) : PW X e t' := ⟨fun wh pins s σ H Q I q => h.run wh pins s σ H Q I (f σ H Q q)⟩
theorem pa_imp {e : List Expr} {t t' : TA} (h : PA X e t) (f : ∀ σ H Q, t' σ H Q → t σ H Q) : PA X e t' := ⟨fun po pins s σ H Q I q => h.run po pins s σ H Q I (f σ H Q q)⟩
theorem ps_imp {e : Stmt} {t t' : TS} (h : PS X e t) (f : ∀ D σ H, t' D σ H → t D σ H) : PS X e t' := ⟨fun pins s σ H D I q => h.run pins s σ H D I (f D σ H q)⟩
theorem pss_imp {e : List Stmt} {t t' : TS} (h : PSs X e t) (f : ∀ D σ H, t' D σ H → t D σ H) : PSs X e t' := ⟨fun pins s σ H D I q => h.run pins s σ H D I (f D σ H q)⟩

/-! ### names, constants -/
def dVar (i : Nat) : Den := fun ρ st => match ρ[i]? with
  | some (some d) => .ok d st
  | _ => .bad
def dC (d : D) : Den := fun _ st => .ok d st
theorem px_var (i : Nat) {x : Str} (hN : X.N[i]? = some x := by rfl) (hv : Vis X.env.scope x := by first | exact Or.inl rfl | exact Or.inr (Or.inl rfl) | exact Or.inr (Or.inr rfl)) (hd : (x == ("__debug__" : Str)) = false := by decide)
    (hcd : (x == ("__classdict__" : Str)) = false := by decide) : PX X T W (.Name x pos) (dVar i) :=
  pe_imp (pe_var hN hv hd hcd) fun σ H Q ⟨M, ρ, st, s, e, h⟩ => by
    unfold dVar at h
    cases q : ρ[i]? with
    | none => rw [q] at h; exact h.elim
    | some o =>
      rw [q] at h
      cases o with
      | none => exact h.elim
      | some d =>
        obtain ⟨v, e1, r⟩ := e.val i d q
        exact ⟨v, e1, h M v H s .refl r⟩
theorem px_const {e : Expr} {v : V} {d : D} (h : PE X e (tC v)) (r : ∀ M H, RV T M H d v) : PX X T W e (dC d) :=
  pe_imp h fun σ H Q ⟨M, ρ, st, s, e, h⟩ => h M v H s .refl (r M H)
theorem px_int {i : Int} {j} : PX X T W (.Constant (.int i) j pos) (dC (.int i)) := px_const pe_int fun _ _ => by simp [RV]
theorem px_bl {b : Bool} {j} : PX X T W (.Constant (.bool b) j pos) (dC (.bl b)) := px_const pe_bl fun _ _ => by simp [RV]
theorem px_non {j} : PX X T W (.Constant .none j pos) (dC .non) := px_const pe_non fun _ _ => by simp [RV]
theorem px_str {x : Str} {j} : PX X T W (.Constant (.str x) j pos) (dC (.str x)) := px_const pe_str fun _ _ => by simp [RV]

/-! ### operators -/
def rD (T : Tb) (f : OpD) : R2 := fun x y H Q => ∃ M d e st, SOk T M H st ∧ RV T M H d x ∧ RV T M H e y ∧ PostO T M H (f d e st) Q
abbrev OpX (X : Cx) (T : Tb) (F : Value → Value → Sem Value) (f : OpD) : Prop := OpR X F (rD T f)
theorem OpR.imp {F : Value → Value → Sem Value} {r r' : R2} (h : OpR X F r) (f : ∀ x y H Q, r' x y H Q → r x y H Q) : OpR X F r' := fun pins s σ H x y v u Q I rx ry q => h pins s σ H x y v u Q I rx ry (f x y H Q q)
def dOp (f : OpD) (a b : Den) : Den := fun ρ st => (a ρ st).bind fun x st => (b ρ st).bind fun y st => ofO (f x y st)
theorem tOp_of {f : OpD} {a b : Den} {σ : L2.St} {H : Hp} {Q : VK} (h : tI T W (dOp f a b) σ H Q) : tOp (rD T f) (tI T W a) (tI T W b) σ H Q := by
  obtain ⟨M, ρ, st, s, e, h⟩ := h
  refine ⟨M, ρ, st, s, e, (Post.bind (R := RV T) h).mono fun v H1 ⟨M1, x, st1, s1, x1, r1, h1⟩ => ?_⟩
  refine ⟨M1, ρ, st1, s1, e.ex x1, (Post.bind (R := RV T) h1).mono fun u H2 ⟨M2, y, st2, s2, x2, r2, h2⟩ => ?_⟩
  exact ⟨M2, x, y, st2, s2, r1.ex x2, r2, PostO.of h2⟩
theorem px_op {op : Operator} {f : OpD} {a b : Expr} {da db : Den} (ho : OpX X T (binaryOp op) f) (ha : PX X T W a da) (hb : PX X T W b db) : PX X T W (.BinOp a op b pos) (dOp f da db) :=
  pe_imp (pe_op ho ha hb) fun _ _ _ h => tOp_of h
theorem px_cmp {op : CmpOp} {f : OpD} {a b : Expr} {da db : Den} (ho : OpX X T (compareOp op) f) (ha : PX X T W a da) (hb : PX X T W b db) (hm : behindInMarks op b = false := by first | exact nomark _ | rfl) : PX X T W (.Compare a [op] [b] pos) (dOp f da db) :=
  pe_imp (pe_cmpR ho ha hb hm) fun _ _ _ h => tOp_of h
/-- a value that is a bool, as a test -/
def dB (d : Den) : DenT := fun ρ st => (d ρ st).bind fun x st => match x with
  | .bl b => .ok b st
  | _ => .bad
theorem dB_post {d : Den} {σ : L2.St} {M : Mu} {H : Hp} {ρ : DEnv} {st : DSto} {Q : Bool → Hp → Prop} (h : Post T RB W σ M H (dB d ρ st) Q) : Post T (RV T) W σ M H (d ρ st) (fun x H1 => ∃ c, x = .bl c ∧ Q c H1) := by
  refine (Post.bind (R := RV T) h).mono fun v H1 ⟨M1, x, st1, s1, x1, r1, h1⟩ => ?_
  cases x with
  | bl b =>
    simp only [RV] at r1
    exact ⟨b, r1, h1 M1 b H1 s1 .refl rfl⟩
  | _ => exact h1.elim
theorem ptx_cmp {op : CmpOp} {f : OpD} {a b : Expr} {da db : Den} (ho : OpX X T (compareOp op) f) (ha : PX X T W a da) (hb : PX X T W b db) (hm : behindInMarks op b = false := by first | exact nomark _ | rfl) : PTX X T W (.Compare a [op] [b] pos) (dB (dOp f da db)) :=
  pt_imp (pt_cmpR ho ha hb hm) fun σ H Q ⟨M, ρ, st, s, e, h⟩ => tOp_of ⟨M, ρ, st, s, e, dB_post h⟩
theorem ptx_val {e : Expr} {d : Den} (h : PX X T W e d) (he : ∀ whole, isTrue e X.env whole = (do let v ← whole; standAt e.pos; holding [v] (truthy v)) := by intro _; rfl) : PTX X T W e (dB d) :=
  pt_imp (pt_val h he) fun σ H Q ⟨M, ρ, st, s, e, h⟩ => ⟨M, ρ, st, s, e, dB_post h⟩
/-- a < b < c, the middle one asked once -/
def dChain (f g : OpD) (a b c : Den) : Den := fun ρ st => (a ρ st).bind fun x st => (b ρ st).bind fun y st => (ofO (f x y st)).bind fun k st => match k with
  | .bl true => (c ρ st).bind fun z st => ofO (g y z st)
  | .bl false => .ok (.bl false) st
  | _ => .bad
theorem PostO.of_bind {α β : Type} {R : Mu → Hp → α → β → Prop} {σ : L2.St} {M : Mu} {H : Hp} {r : Option (D × DSto)} {f : D → DSto → DRes α} {Q : β → Hp → Prop} (h : Post T R W σ M H ((ofO r).bind f) Q) :
    PostO T M H r (fun b H1 => ∃ M1 a st1, SOk T M1 H1 st1 ∧ Ex M H M1 H1 ∧ RV T M1 H1 a b ∧ Post T R W σ M1 H1 (f a st1) Q) := PostO.of (W := W) (σ := σ) (Post.bind (R := RV T) h)
theorem tChain_of {f g : OpD} {a b c : Den} {σ : L2.St} {H : Hp} {Q : VK} (h : tI T W (dChain f g a b c) σ H Q) : tChain (rD T f) (rD T g) (tI T W a) (tI T W b) (tI T W c) σ H Q := by
  obtain ⟨M, ρ, st, s, e, h⟩ := h
  refine ⟨M, ρ, st, s, e, (Post.bind (R := RV T) h).mono fun v H1 ⟨M1, x, st1, s1, x1, r1, h1⟩ => ?_⟩
  refine ⟨M1, ρ, st1, s1, e.ex x1, (Post.bind (R := RV T) h1).mono fun u H2 ⟨M2, y, st2, s2, x2, r2, h2⟩ => ?_⟩
  have h3 := PostO.of_bind h2
  refine ⟨M2, x, y, st2, s2, r1.ex x2, r2, ?_⟩
  cases q : f x y st2 with
  | none => rw [q] at h3; exact h3
  | some p =>
    rw [q] at h3
    intro M3 v3 H3 s3 x3 r3
    obtain ⟨M4, k, st4, s4, x4, r4, h4⟩ := h3 M3 v3 H3 s3 x3 r3
    cases k with
    | bl k =>
      simp only [RV] at r4
      refine ⟨k, r4, ?_⟩
      cases k with
      | false => exact h4 M4 _ H3 s4 .refl (by simp [RV])
      | true =>
        refine ⟨M4, ρ, st4, s4, (e.ex x1).ex (x2.trans x4), (Post.bind (R := RV T) h4).mono fun w H5 ⟨M5, z, st5, s5, x5, r5, h5⟩ => ?_⟩
        exact ⟨M5, y, z, st5, s5, (r2.ex x4).ex x5, r5, PostO.of h5⟩
    | _ => exact h4.elim
theorem px_chain {op op' : CmpOp} {f g : OpD} {a b c : Expr} {da db dc : Den} (ho : OpX X T (compareOp op) f) (ho' : OpX X T (compareOp op') g) (ha : PX X T W a da) (hb : PX X T W b db) (hc : PX X T W c dc) (hm : lastMarks [op, op'] [b, c] = false := by with_unfolding_all rfl) : PX X T W (.Compare a [op, op'] [b, c] pos) (dChain f g da db dc) :=
  pe_imp (pe_chain ho ho' ha hb hc hm) fun _ _ _ h => tChain_of h
theorem ptx_chain {op op' : CmpOp} {f g : OpD} {a b c : Expr} {da db dc : Den} (ho : OpX X T (compareOp op) f) (ho' : OpX X T (compareOp op') g) (ha : PX X T W a da) (hb : PX X T W b db) (hc : PX X T W c dc) (hm : lastMarks [op, op'] [b, c] = false := by with_unfolding_all rfl) : PTX X T W (.Compare a [op, op'] [b, c] pos) (dB (dChain f g da db dc)) :=
  pt_imp (pt_chain ho ho' ha hb hc hm) fun σ H Q ⟨M, ρ, st, s, e, h⟩ => tChain_of ⟨M, ρ, st, s, e, dB_post h⟩

/-! ### and, or, not -/
def dAnd (a b : DenT) : DenT := fun ρ st => (a ρ st).bind fun x st => if x = true then b ρ st else .ok false st
def dOr (a b : DenT) : DenT := fun ρ st => (a ρ st).bind fun x st => if x = true then .ok true st else b ρ st
def dNot (a : DenT) : DenT := fun ρ st => (a ρ st).bind fun x st => .ok (!x) st
def dIf (t : DenT) (a b : Den) : Den := fun ρ st => (t ρ st).bind fun x st => if x = true then a ρ st else b ρ st
def dAndV (a b : Den) : Den := fun ρ st => (a ρ st).bind fun x st => match x with
  | .bl true => b ρ st
  | .bl false => .ok (.bl false) st
  | _ => .bad
def dOrV (a b : Den) : Den := fun ρ st => (a ρ st).bind fun x st => match x with
  | .bl true => .ok (.bl true) st
  | .bl false => b ρ st
  | _ => .bad
def dNotV (a : Den) : Den := fun ρ st => (a ρ st).bind fun x st => match x with
  | .bl b => .ok (.bl (!b)) st
  | _ => .bad
variable {a b c : Expr} {rest : List Expr} {da db : Den} {ta tb : DenT}
theorem pwx_and1 (ha : PTX X T W a ta) : PWX X T W (.BoolOp .And [a] pos) ta := pw_and1 ha
theorem pwx_or1 (ha : PTX X T W a ta) : PWX X T W (.BoolOp .Or [a] pos) ta := pw_or1 ha
theorem pwx_and (ha : PTX X T W a ta) (hb : PWX X T W (.BoolOp .And (b :: rest) pos) tb) : PWX X T W (.BoolOp .And (a :: b :: rest) pos) (dAnd ta tb) :=
  pw_imp (pw_and ha hb) fun σ H Q ⟨M, ρ, st, s, e, h⟩ => by
    refine ⟨M, ρ, st, s, e, (Post.bind (R := RB) h).mono fun k H1 ⟨M1, k', st1, s1, x1, r1, h1⟩ => ?_⟩
    obtain rfl : k' = k := r1
    cases k' with
    | true => exact ⟨M1, ρ, st1, s1, e.ex x1, h1⟩
    | false => exact h1 M1 _ H1 s1 .refl rfl
theorem pwx_or (ha : PTX X T W a ta) (hb : PWX X T W (.BoolOp .Or (b :: rest) pos) tb) : PWX X T W (.BoolOp .Or (a :: b :: rest) pos) (dOr ta tb) :=
  pw_imp (pw_or ha hb) fun σ H Q ⟨M, ρ, st, s, e, h⟩ => by
    refine ⟨M, ρ, st, s, e, (Post.bind (R := RB) h).mono fun k H1 ⟨M1, k', st1, s1, x1, r1, h1⟩ => ?_⟩
    obtain rfl : k' = k := r1
    cases k' with
    | true => exact h1 M1 _ H1 s1 .refl rfl
    | false => exact ⟨M1, ρ, st1, s1, e.ex x1, h1⟩
theorem ptx_bool (h : PWX X T W a ta) : PTX X T W a ta := PW.pt h
theorem ptx_not (ha : PTX X T W a ta) : PTX X T W (.UnaryOp .Not a pos) (dNot ta) :=
  pt_imp (pt_not ha) fun σ H Q ⟨M, ρ, st, s, e, h⟩ => by
    refine ⟨M, ρ, st, s, e, (Post.bind (R := RB) h).mono fun k H1 ⟨M1, k', st1, s1, x1, r1, h1⟩ => ?_⟩
    cases r1
    exact h1 M1 _ H1 s1 .refl rfl
theorem px_if (hc : PTX X T W c ta) (ha : PX X T W a da) (hb : PX X T W b db) : PX X T W (.IfExp c a b pos) (dIf ta da db) :=
  pe_imp (pe_ifExp hc ha hb) fun σ H Q ⟨M, ρ, st, s, e, h⟩ => by
    refine ⟨M, ρ, st, s, e, (Post.bind (R := RB) h).mono fun k H1 ⟨M1, k', st1, s1, x1, r1, h1⟩ => ?_⟩
    obtain rfl : k' = k := r1
    cases k' with
    | true => exact ⟨M1, ρ, st1, s1, e.ex x1, h1⟩
    | false => exact ⟨M1, ρ, st1, s1, e.ex x1, h1⟩
theorem px_one {op} (h : PX X T W a da) : PX X T W (.BoolOp op [a] pos) da := pe_one h
theorem px_and (ha : PX X T W a da) (hb : PX X T W (.BoolOp .And (b :: rest) pos) db) : PX X T W (.BoolOp .And (a :: b :: rest) pos) (dAndV da db) :=
  pe_imp (pe_and ha hb) fun σ H Q ⟨M, ρ, st, s, e, h⟩ => by
    refine ⟨M, ρ, st, s, e, (Post.bind (R := RV T) h).mono fun k H1 ⟨M1, k', st1, s1, x1, r1, h1⟩ => ?_⟩
    cases k' with
    | bl k =>
      simp only [RV] at r1
      refine ⟨k, r1, ?_⟩
      cases k with
      | true => exact ⟨M1, ρ, st1, s1, e.ex x1, h1⟩
      | false => exact h1 M1 _ H1 s1 .refl (by simp [RV])
    | _ => exact h1.elim
theorem px_or (ha : PX X T W a da) (hb : PX X T W (.BoolOp .Or (b :: rest) pos) db) : PX X T W (.BoolOp .Or (a :: b :: rest) pos) (dOrV da db) :=
  pe_imp (pe_or ha hb) fun σ H Q ⟨M, ρ, st, s, e, h⟩ => by
    refine ⟨M, ρ, st, s, e, (Post.bind (R := RV T) h).mono fun k H1 ⟨M1, k', st1, s1, x1, r1, h1⟩ => ?_⟩
    cases k' with
    | bl k =>
      simp only [RV] at r1
      refine ⟨k, r1, ?_⟩
      cases k with
      | true => exact h1 M1 _ H1 s1 .refl (by simp [RV])
      | false => exact ⟨M1, ρ, st1, s1, e.ex x1, h1⟩
    | _ => exact h1.elim
theorem px_not (ha : PX X T W a da) : PX X T W (.UnaryOp .Not a pos) (dNotV da) :=
  pe_imp (pe_not ha) fun σ H Q ⟨M, ρ, st, s, e, h⟩ => by
    refine ⟨M, ρ, st, s, e, (Post.bind (R := RV T) h).mono fun k H1 ⟨M1, k', st1, s1, x1, r1, h1⟩ => ?_⟩
    cases k' with
    | bl k =>
      simp only [RV] at r1
      exact ⟨k, r1, h1 M1 _ H1 s1 .refl (by simp [RV])⟩
    | _ => exact h1.elim

/-! ### argument lists, displays -/
def dNil : DenA := fun _ st => .ok [] st
def dCons (a : Den) (r : DenA) : DenA := fun ρ st => (a ρ st).bind fun x st => (r ρ st).bind fun xs st => .ok (x :: xs) st
/-- the items of a tuple or a list -/
def itemsD (d : D) (st : DSto) : Option (List D) := match d with
  | .tup xs => some xs
  | .lst xs => some xs
  | .ref n => match st[n]? with
    | some (.lst xs) => some xs
    | _ => none
  | .scr ns => some (ns.map D.int)
  | _ => none
def dStar (a : Den) (r : DenA) : DenA := fun ρ st => (a ρ st).bind fun x st => match itemsD x st with
  | some ys => (r ρ st).bind fun xs st => .ok (ys ++ xs) st
  | none => .bad
theorem rvs_ints {M : Mu} {H : Hp} : ∀ ns : List Int, RVs T M H (ns.map D.int) (ns.map V.int)
  | [] => by simp [RVs]
  | n :: ns => by simp only [List.map_cons, RVs]; exact ⟨_, _, rfl, by simp [RV], rvs_ints ns⟩
theorem items_of {K : PySem.W.Frag} {M : Mu} {H : Hp} {st : DSto} {d : D} {v : V} {xs : List D} (hK : K = T.K) (s : SOk T M H st) (r : RV T M H d v) (h : itemsD d st = some xs) :
    ∃ a vs, v = .ref a ∧ RVs T M H xs vs ∧ (SqL K H a vs ∨ SqT K H a vs) := by
  subst hK
  cases d with
  | tup ys =>
    simp only [RV] at r
    obtain ⟨a, vs, rfl, _, e, rr⟩ := r
    cases (show some ys = some xs from h)
    exact ⟨a, vs, rfl, rr, .inr (SqT.of e)⟩
  | lst ys =>
    simp only [RV] at r
    obtain ⟨a, vs, rfl, _, e, rr⟩ := r
    cases (show some ys = some xs from h)
    exact ⟨a, vs, rfl, rr, .inl (SqL.of e)⟩
  | ref n =>
    simp only [RV] at r
    obtain ⟨a, rfl, e⟩ := r
    unfold itemsD at h
    dsimp only at h
    cases q : st[n]? with
    | none => rw [q] at h; cases h
    | some o =>
      rw [q] at h
      have ro := s.ro n o a q e
      cases o with
      | lst ys =>
        cases (show some ys = some xs from h)
        obtain ⟨vs, e1, rr⟩ := ro
        exact ⟨a, vs, rfl, rr, .inl (SqL.of e1)⟩
      | _ => cases h
  | scr ns =>
    simp only [RV] at r
    obtain ⟨a, rfl, e⟩ := r
    cases (show some (ns.map D.int) = some xs from h)
    refine ⟨a, ns.map V.int, rfl, rvs_ints ns, .inl ?_⟩
    rcases e with ⟨o, _, e⟩ | e
    · exact .inl (.inr ⟨o, e⟩)
    · exact .inr e
  | _ => cases h
variable {e : Expr} {es : List Expr} {d : Den} {t : DenA}
theorem pax_nil : PAX X T W [] dNil := pa_imp pa_nil fun σ H Q ⟨M, ρ, st, s, e, h⟩ => h M [] H s .refl (by simp [RVs])
theorem pax_cons (ha : PX X T W e d) (hr : PAX X T W es t) (hs : starEach (e :: es) X.env = (false, eval e X.env) :: starEach es X.env := by rfl) : PAX X T W (e :: es) (dCons d t) :=
  pa_imp (pa_cons ha hr hs) fun σ H Q ⟨M, ρ, st, s, e, h⟩ => by
    refine ⟨M, ρ, st, s, e, (Post.bind (R := RV T) h).mono fun v H1 ⟨M1, x, st1, s1, x1, r1, h1⟩ => ?_⟩
    refine ⟨M1, ρ, st1, s1, e.ex x1, (Post.bind (R := RVs T) h1).mono fun vs H2 ⟨M2, xs, st2, s2, x2, r2, h2⟩ => ?_⟩
    exact h2 M2 _ H2 s2 .refl (by simp only [RVs]; exact ⟨v, vs, rfl, r1.ex x2, r2⟩)
theorem pax_star {p : Pos} (hF : Fits X T W) (ha : PX X T W e d) (hr : PAX X T W es t) (hs : starEach (.Starred e p :: es) X.env = (true, eval e X.env) :: starEach es X.env := by rfl) : PAX X T W (.Starred e p :: es) (dStar d t) :=
  pa_imp (StX.pa_star ha hr hs) fun σ H Q ⟨M, ρ, st, s, e, h⟩ => by
    refine ⟨M, ρ, st, s, e, (Post.bind (R := RV T) h).mono fun v H1 ⟨M1, x, st1, s1, x1, r1, h1⟩ => ?_⟩
    cases q : itemsD x st1 with
    | none => rw [q] at h1; exact h1.elim
    | some ys =>
      rw [q] at h1
      obtain ⟨a, vs, rfl, rr, sq⟩ := items_of hF.K s1 r1 q
      refine ⟨a, vs, rfl, sq.symm, M1, ρ, st1, s1, e.ex x1, (Post.bind (R := RVs T) h1).mono fun us H2 ⟨M2, xs, st2, s2, x2, r2, h2⟩ => ?_⟩
      exact h2 M2 _ H2 s2 .refl ((rr.ex x2).app r2)
def mkTup (xs : List D) (st : DSto) : DRes D := if xs.length ≤ sizeLine then .ok (.tup xs) st else .bad
def mkLst (xs : List D) (st : DSto) : DRes D := if xs.length ≤ sizeLine then .ok (.ref st.length) (st ++ [.lst xs]) else .bad
def mkLstV (xs : List D) (st : DSto) : DRes D := if xs.length ≤ sizeLine then .ok (.lst xs) st else .bad
def dLstV (t : DenA) : Den := fun ρ st => (t ρ st).bind mkLstV
def dTup (t : DenA) : Den := fun ρ st => (t ρ st).bind mkTup
def dLst (t : DenA) : Den := fun ρ st => (t ρ st).bind mkLst
theorem px_tup {x1} (h : PAX X T W es t) : PX X T W (.Tuple es x1 pos) (dTup t) :=
  pe_imp (pe_tup h) fun σ H Q ⟨M, ρ, st, s, e, h⟩ => by
    refine ⟨M, ρ, st, s, e, (Post.bind (R := RVs T) h).mono fun vs H1 ⟨M1, xs, st1, s1, x1, r1, h1⟩ => ?_⟩
    unfold mkTup at h1
    by_cases hz : xs.length ≤ sizeLine
    · rw [if_pos hz] at h1
      refine ⟨by rw [r1.len]; exact hz, fun p hp => ?_⟩
      obtain ⟨a1, a2, a3⟩ := upd_tup_ok s1 r1 hp
      exact h1 M1 _ _ a1 a2 a3
    · rw [if_neg hz] at h1; exact h1.elim
theorem px_lst (h : PAX X T W es t) : PX X T W (.List es pos) (dLst t) :=
  pe_imp (pe_lst h) fun σ H Q ⟨M, ρ, st, s, e, h⟩ => by
    refine ⟨M, ρ, st, s, e, (Post.bind (R := RVs T) h).mono fun vs H1 ⟨M1, xs, st1, s1, x1, r1, h1⟩ => ?_⟩
    unfold mkLst at h1
    by_cases hz : xs.length ≤ sizeLine
    · rw [if_pos hz] at h1
      refine ⟨by rw [r1.len]; exact hz, fun p hp => ?_⟩
      obtain ⟨a1, a2, a3⟩ := new_lst_ok s1 r1 hp
      exact h1 _ _ _ a1 a2 a3
    · rw [if_neg hz] at h1; exact h1.elim
theorem px_lstV (h : PAX X T W es t) : PX X T W (.List es pos) (dLstV t) :=
  pe_imp (pe_lst h) fun σ H Q ⟨M, ρ, st, s, e, h⟩ => by
    refine ⟨M, ρ, st, s, e, (Post.bind (R := RVs T) h).mono fun vs H1 ⟨M1, xs, st1, s1, x1, r1, h1⟩ => ?_⟩
    unfold mkLstV at h1
    by_cases hz : xs.length ≤ sizeLine
    · rw [if_pos hz] at h1
      refine ⟨by rw [r1.len]; exact hz, fun p hp => ?_⟩
      obtain ⟨a1, a2, a3⟩ := upd_lst_ok s1 r1 hp
      exact h1 _ _ _ a1 a2 a3
    · rw [if_neg hz] at h1; exact h1.elim
end
end FV

set_option Elab.async false
set_option linter.all false
set_option maxRecDepth 100000
set_option maxHeartbeats 4000000
namespace FV
open PySem PySem.Spec PyProof.Rows L2

def DRes.toS {α : Type} (r : DRes α) (ρ : DEnv) (f : α → DSto → DStm) : DStm := match r with
  | .ok a st => f a st
  | .exc c fs st => .exc c fs ρ st
  | .bad => .bad
@[simp] theorem toS_ok {α : Type} (a : α) (st : DSto) (ρ : DEnv) (f : α → DSto → DStm) : (DRes.ok a st).toS ρ f = f a st := id rfl
@[simp] theorem toS_exc {α : Type} (c : Nat) (fs) (st : DSto) (ρ : DEnv) (f : α → DSto → DStm) : (DRes.exc c fs st : DRes α).toS ρ f = .exc c fs ρ st := id rfl
@[simp] theorem toS_bad {α : Type} (ρ : DEnv) (f : α → DSto → DStm) : (DRes.bad : DRes α).toS ρ f = .bad := id rfl
def DStm.andThen (r : DStm) (b : DenS) : DStm := match r with
  | .nx ρ st => b ρ st
  | r => r
@[simp] theorem andThen_nx (ρ : DEnv) (st : DSto) (b : DenS) : (DStm.nx ρ st).andThen b = b ρ st := id rfl
@[simp] theorem andThen_rt (d : D) (st : DSto) (b : DenS) : (DStm.rt d st).andThen b = .rt d st := id rfl
@[simp] theorem andThen_bk (ρ : DEnv) (st : DSto) (b : DenS) : (DStm.bk ρ st).andThen b = .bk ρ st := id rfl
@[simp] theorem andThen_ct (ρ : DEnv) (st : DSto) (b : DenS) : (DStm.ct ρ st).andThen b = .ct ρ st := id rfl
@[simp] theorem andThen_exc (c : Nat) (fs) (ρ : DEnv) (st : DSto) (b : DenS) : (DStm.exc c fs ρ st).andThen b = .exc c fs ρ st := id rfl
@[simp] theorem andThen_bad (b : DenS) : DStm.bad.andThen b = .bad := id rfl

section
variable {α β : Type} {T : Tb} {R : Mu → Hp → α → β → Prop} {W : WX} {σ : L2.St} {M M1 : Mu} {H H1 : Hp} {D D' : Ends}
theorem PostS.ex {r : DStm} (h : PostS T W D M H r) (x : Ex M H M1 H1) : PostS T W D M1 H1 r := by
  cases r with
  | nx ρ st => exact fun M' σ' H' s y e => h M' σ' H' s (x.trans y) e
  | rt d st => exact fun M' v H' s y e => h M' v H' s (x.trans y) e
  | bk ρ st => exact fun M' σ' H' s y e => h M' σ' H' s (x.trans y) e
  | ct ρ st => exact fun M' σ' H' s y e => h M' σ' H' s (x.trans y) e
  | exc c fs ρ st => exact fun M' σ' H' C dd xs s y => h M' σ' H' C dd xs s (x.trans y)
  | bad => exact h
theorem PostS.bind {r : DRes α} {ρ : DEnv} {f : α → DSto → DStm} (h : PostS T W D M H (r.toS ρ f)) (e : EOk T M H ρ σ) :
    Post T R W σ M H r (fun b H1 => ∃ M1 a st1, SOk T M1 H1 st1 ∧ Ex M H M1 H1 ∧ R M1 H1 a b ∧ PostS T W D M1 H1 (f a st1)) := by
  cases r with
  | ok d st => exact fun M' v H' s y rr => ⟨M', d, st, s, y, rr, PostS.ex h y⟩
  | exc c fs st => exact fun M' H' C dd xs s y => h M' σ H' C dd xs s y (e.ex y)
  | bad => exact h
theorem PostS.seq {r : DStm} {b : DenS} (h : PostS T W D M H (r.andThen b)) : PostS T W { D with nx := tS T W b D } M H r := by
  cases r with
  | nx ρ st => exact fun M' σ' H' s y e => ⟨M', ρ, st, s, e, PostS.ex h y⟩
  | rt d st => exact h
  | bk ρ st => exact h
  | ct ρ st => exact h
  | exc c fs ρ st => exact h
  | bad => exact h
end

section
variable {X : Cx} {T : Tb} {W : WX} {pos : Pos} {st : Stmt} {rest : List Stmt} {a b : DenS} {e : Expr} {d : Den}
def dSkip : DenS := fun ρ st => .nx ρ st
def dSeq (a b : DenS) : DenS := fun ρ st => (a ρ st).andThen b
theorem pssx_nil : PSsX X T W [] dSkip := pss_imp pss_nil fun D σ H ⟨M, ρ, st, s, e, h⟩ => h M σ H s .refl e
theorem pssx_one (h : PSX X T W st a) : PSsX X T W [st] a := pss_one h
theorem pssx_cons (h1 : PSX X T W st a) (h2 : PSsX X T W rest b) : PSsX X T W (st :: rest) (dSeq a b) :=
  pss_imp (pss_cons h1 h2) fun D σ H ⟨M, ρ, st, s, e, h⟩ => ⟨M, ρ, st, s, e, PostS.seq h⟩
theorem psx_pass : PSX X T W (.Pass pos) dSkip := ps_imp ps_pass fun D σ H ⟨M, ρ, st, s, e, h⟩ => h M σ H s .refl e
def dBreak : DenS := fun ρ st => .bk ρ st
def dCont : DenS := fun ρ st => .ct ρ st
theorem psx_break : PSX X T W (.Break pos) dBreak := ps_imp ps_break fun D σ H ⟨M, ρ, st, s, e, h⟩ => h M σ H s .refl e
theorem psx_cont : PSX X T W (.Continue pos) dCont := ps_imp ps_continue fun D σ H ⟨M, ρ, st, s, e, h⟩ => h M σ H s .refl e
def dExpr (d : Den) : DenS := fun ρ st => (d ρ st).toS ρ fun _ st => .nx ρ st
theorem psx_expr (h : PX X T W e d) (hs : swapsWith e none pos.line X.env = pure false := by rfl) : PSX X T W (.Expr e pos) (dExpr d) :=
  ps_imp (ps_expr h hs) fun D σ H ⟨M, ρ, st, s, e, h⟩ => ⟨M, ρ, st, s, e, (PostS.bind (R := RV T) h e).mono fun v H1 ⟨M1, x, st1, s1, x1, r1, h1⟩ => h1 M1 σ H1 s1 .refl (e.ex x1)⟩
def dRet (d : Den) : DenS := fun ρ st => (d ρ st).toS ρ fun x st => .rt x st
theorem psx_ret (h : PX X T W e d) : PSX X T W (.Return (some e) pos) (dRet d) :=
  ps_imp (ps_ret h) fun D σ H ⟨M, ρ, st, s, e, h⟩ => ⟨M, ρ, st, s, e, (PostS.bind (R := RV T) h e).mono fun v H1 ⟨M1, x, st1, s1, x1, r1, h1⟩ => h1 M1 v H1 s1 .refl r1⟩
def dRetN : DenS := fun _ st => .rt .non st
theorem psx_retN : PSX X T W (.Return none pos) dRetN := ps_imp ps_retN fun D σ H ⟨M, ρ, st, s, e, h⟩ => h M .non H s .refl (by simp [RV])
def dIfS (t : DenT) (a b : DenS) : DenS := fun ρ st => (t ρ st).toS ρ fun k st => if k = true then a ρ st else b ρ st
theorem psx_if {c : Expr} {x y : List Stmt} {t : DenT} (hc : PTX X T W c t) (ha : PSsX X T W x a) (hb : PSsX X T W y b) : PSX X T W (.If c x y pos) (dIfS t a b) :=
  ps_imp (ps_if hc ha hb) fun D σ H ⟨M, ρ, st, s, e, h⟩ => ⟨M, ρ, st, s, e, (PostS.bind (R := RB) h e).mono fun k H1 ⟨M1, k', st1, s1, x1, r1, h1⟩ => by
    obtain rfl : k' = k := r1
    cases k' with
    | true => exact ⟨M1, ρ, st1, s1, e.ex x1, h1⟩
    | false => exact ⟨M1, ρ, st1, s1, e.ex x1, h1⟩⟩

/-! ### targets -/
abbrev DenG := D → DEnv → DSto → Option (DEnv × DSto)
/-- only the slots sl may have changed -/
def SlEq (sl : List Nat) (σ σ' : L2.St) : Prop := σ'.length = σ.length ∧ ∀ j, j ∉ sl → σ'[j]? = σ[j]?
theorem SlEq.refl {sl : List Nat} {σ : L2.St} : SlEq sl σ σ := ⟨rfl, fun _ _ => rfl⟩
def PostG (T : Tb) (sl : List Nat) (σ : L2.St) (M : Mu) (H : Hp) (r : Option (DEnv × DSto)) (Q : L2.St → Hp → Prop) : Prop := match r with
  | some (ρ', st') => ∀ M' σ' H', SOk T M' H' st' → Ex M H M' H' → EOk T M' H' ρ' σ' → SlEq sl σ σ' → Q σ' H'
  | none => False
def tG (T : Tb) (sl : List Nat) (g : DenG) : TG := fun v σ H Q => ∃ M d ρ st, SOk T M H st ∧ RV T M H d v ∧ EOk T M H ρ σ ∧ PostG T sl σ M H (g d ρ st) Q
abbrev PGX (X : Cx) (T : Tb) (sl : List Nat) (tg : Expr) (g : DenG) : Prop := PG X tg (tG T sl g)
abbrev DenGs := List D → DEnv → DSto → Option (DEnv × DSto)
def tGs (T : Tb) (sl : List Nat) (g : DenGs) : TGs := fun vs σ H Q => ∃ M ds ρ st, SOk T M H st ∧ RVs T M H ds vs ∧ EOk T M H ρ σ ∧ PostG T sl σ M H (g ds ρ st) Q
abbrev PGsX (X : Cx) (T : Tb) (sl : List Nat) (tg : List Expr) (g : DenGs) : Prop := PGs X tg (tGs T sl g)
theorem pg_imp {tg : Expr} {t t' : TG} (h : PG X tg t) (f : ∀ v σ H Q, t' v σ H Q → t v σ H Q) : PG X tg t' := ⟨fun pins s σ H v u Q I r q => h.run pins s σ H v u Q I r (f v σ H Q q)⟩
theorem pgs_imp {tg : List Expr} {t t' : TGs} (h : PGs X tg t) (f : ∀ v σ H Q, t' v σ H Q → t v σ H Q) : PGs X tg t' := ⟨fun pins s σ H v u Q I r q => h.run pins s σ H v u Q I r (f v σ H Q q)⟩
def gdName (i : Nat) : DenG := fun d ρ st => some (ρ.set i (some d), st)
theorem EOk.set {M : Mu} {H : Hp} {ρ : DEnv} {σ : L2.St} {d : D} {v : V} (e : EOk T M H ρ σ) (i : Nat) (r : RV T M H d v) : EOk T M H (ρ.set i (some d)) (σ.set i (some v)) := by
  refine ⟨by simp [e.len], fun j x h => ?_⟩
  by_cases hj : i = j
  · subst hj
    by_cases hi : i < ρ.length
    · rw [List.getElem?_set_self hi] at h
      cases h
      exact ⟨v, List.getElem?_set_self (by rw [← e.len]; exact hi), r⟩
    · rw [List.getElem?_eq_none (by simp; omega)] at h; cases h
  · rw [List.getElem?_set_ne hj] at h ⊢
    exact e.val j x h
theorem pgx_name (i : Nat) {x : Str} (hN : X.N.Nodup) (hi : X.N[i]? = some x := by rfl) (hx : Loc X.env.scope x := by first | exact Or.inl rfl | exact Or.inr rfl) (hf : X.fn x = true ∨ X.env.scope.names.lookup x = some .local := by first | exact .inl rfl | exact .inr rfl) :
    PGX X T [i] (.Name x pos) (gdName i) :=
  pg_imp (pg_name hN hi hx hf) fun v σ H Q ⟨M, d, ρ, st, s, r, e, h⟩ => h M _ H s .refl (e.set i r) ⟨by simp, fun j hj => List.getElem?_set_ne (by rintro rfl; exact hj (by simp))⟩
def gdNil : DenGs := fun ds ρ st => match ds with
  | [] => some (ρ, st)
  | _ => none
def gdCons (g : DenG) (r : DenGs) : DenGs := fun ds ρ st => match ds with
  | d :: ds => match g d ρ st with
    | some (ρ1, st1) => r ds ρ1 st1
    | none => none
  | [] => none
theorem pgsx_nil : PGsX X T [] [] gdNil := pgs_imp pgs_nil fun vs σ H Q ⟨M, ds, ρ, st, s, r, e, h⟩ => by
  cases ds with
  | nil => simp only [RVs] at r; exact ⟨r, h M σ H s .refl e .refl⟩
  | cons _ _ => exact h.elim
theorem pgsx_cons {es : List Expr} {sl sl' : List Nat} {g : DenG} {r : DenGs} (h1 : PGX X T sl e g) (h2 : PGsX X T sl' es r) (hs : (assignEach (e :: es) X.env).map (·.2) = assign e X.env :: (assignEach es X.env).map (·.2) := by rfl) :
    PGsX X T (sl ++ sl') (e :: es) (gdCons g r) := pgs_imp (pgs_cons h1 h2 hs) fun vs σ H Q ⟨M, ds, ρ, st, s, rv, e, h⟩ => by
  cases ds with
  | nil => exact h.elim
  | cons d ds =>
    simp only [RVs] at rv
    obtain ⟨v, ws, rfl, r1, r2⟩ := rv
    refine ⟨v, ws, rfl, M, d, ρ, st, s, r1, e, ?_⟩
    simp only [gdCons] at h
    cases q : g d ρ st with
    | none => rw [q] at h; exact h.elim
    | some p =>
      obtain ⟨ρ1, st1⟩ := p
      rw [q] at h
      intro M1 σ1 H1 s1 x1 e1 k1
      refine ⟨M1, ds, ρ1, st1, s1, r2.ex x1, e1, ?_⟩
      dsimp only at h
      cases q2 : r ds ρ1 st1 with
      | none => rw [q2] at h; exact h.elim
      | some p2 =>
        obtain ⟨ρ2, st2⟩ := p2
        rw [q2] at h
        exact fun M2 σ2 H2 s2 x2 e2 k2 => h M2 σ2 H2 s2 (x1.trans x2) e2 ⟨k2.1.trans k1.1, fun j hj => (k2.2 j fun z => hj (List.mem_append_right _ z)).trans (k1.2 j fun z => hj (List.mem_append_left _ z))⟩
def gdTup (n : Nat) (r : DenGs) : DenG := fun d ρ st => match d with
  | .tup xs => if xs.length = n then r xs ρ st else none
  | _ => none
theorem pgx_tup {es : List Expr} {k : Nat} {sl : List Nat} {r : DenGs} {n : Nat} (hc : X.calm = true) (h : PGsX X T sl es r) (hn : (assignEach es X.env).length = n := by rfl) (hst : (assignEach es X.env).findIdx? (·.1) = none := by rfl) :
    PGX X T sl (.Tuple es k pos) (gdTup n r) := pg_imp (pg_tup hc h hn hst) fun v σ H Q ⟨M, d, ρ, st, s, rv, e, h⟩ => by
  cases d with
  | tup xs =>
    simp only [RV] at rv
    obtain ⟨a, vs, rfl, _, e1, rr⟩ := rv
    simp only [gdTup] at h
    by_cases hl : xs.length = n
    · rw [if_pos hl] at h
      exact ⟨a, vs, rfl, SqT.of e1, by rw [rr.len]; exact hl, M, xs, ρ, st, s, rr, e, h⟩
    · rw [if_neg hl] at h; exact h.elim
  | _ => exact h.elim
/-- o[i] = v on data -/
abbrev SetD := D → D → D → DSto → Option DSto
def PostN (T : Tb) (M : Mu) (H : Hp) (r : Option DSto) (Q : Hp → Prop) : Prop := match r with
  | some st => ∀ M' H', SOk T M' H' st → Ex M H M' H' → Q H'
  | none => False
def rSet (T : Tb) (f : SetD) : TSet := fun o i v H Q => ∃ M od id d st, SOk T M H st ∧ RV T M H od o ∧ RV T M H id i ∧ RV T M H d v ∧ PostN T M H (f od id d st) Q
abbrev SetX (X : Cx) (T : Tb) (f : SetD) : Prop := PSet X (rSet T f)
theorem pset_imp {t t' : TSet} (h : PSet X t) (f : ∀ o i v H Q, t' o i v H Q → t o i v H Q) : PSet X t' := fun pins s σ H o i v ov iv u Q I r1 r2 r3 q => h pins s σ H o i v ov iv u Q I r1 r2 r3 (f o i v H Q q)
def gdSub (o i : Den) (f : SetD) : DenG := fun d ρ st => match o ρ st with
  | .ok x st1 => match i ρ st1 with
    | .ok y st2 => match f x y d st2 with
      | some st3 => some (ρ, st3)
      | none => none
    | _ => none
  | _ => none
theorem pgx_sub {o i : Expr} {od id : Den} {f : SetD} (ho : PX X T W o od) (hi : PX X T W i id) (hs : SetX X T f)
    (ha : ∀ v, assign (.Subscript o i pos) X.env v = (do
      let ov ← holding [v] (eval o X.env)
      let iv ← holding [v, ov] (eval i X.env)
      standAt pos
      holding [v, ov, iv] (setItem ov iv v)
      release [v, ov, iv] []) := by intro _; rfl) : PGX X T [] (.Subscript o i pos) (gdSub od id f) :=
  pg_imp (pg_sub ho hi hs ha) fun v σ H Q ⟨M, d, ρ, st, s, r, e, h⟩ => by
    unfold gdSub at h
    refine ⟨M, ρ, st, s, e, ?_⟩
    cases q1 : od ρ st with
    | ok x st1 =>
      simp only [q1] at h
      intro M1 xv H1 s1 x1 r1
      refine ⟨M1, ρ, st1, s1, e.ex x1, ?_⟩
      cases q2 : id ρ st1 with
      | ok y st2 =>
        simp only [q2] at h
        intro M2 yv H2 s2 x2 r2
        refine ⟨M2, x, y, d, st2, s2, r1.ex x2, r2, (r.ex x1).ex x2, ?_⟩
        cases q3 : f x y d st2 with
        | none => simp only [q3] at h; exact h.elim
        | some st3 =>
          simp only [q3] at h
          exact fun M3 H3 s3 x3 => h M3 σ H3 s3 ((x1.trans x2).trans x3) (((e.ex x1).ex x2).ex x3) .refl
      | exc c fs st2 => simp only [q2] at h; exact h.elim
      | bad => simp only [q2] at h; exact h.elim
    | exc c fs st1 => simp only [q1] at h; exact h.elim
    | bad => simp only [q1] at h; exact h.elim
def dAsgG (d : Den) (g : DenG) : DenS := fun ρ st => (d ρ st).toS ρ fun x st => match g x ρ st with
  | some (ρ', st') => .nx ρ' st'
  | none => .bad
theorem psx_asg {tg : Expr} {sl : List Nat} {g : DenG} (he : PX X T W e d) (hg : PGX X T sl tg g) (hs : swapsWithSole [tg] e pos.line X.env = pure false := by rfl) (hw : swappedStores [tg] e X.env = pure none := by rfl)
    (h1 : (assignEach [tg] X.env).map (·.2) = [assign tg X.env] := by rfl) : PSX X T W (.Assign [tg] e pos) (dAsgG d g) :=
  ps_imp (ps_asg he hg hs hw h1) fun D σ H ⟨M, ρ, st, s, e, h⟩ => ⟨M, ρ, st, s, e, (PostS.bind (R := RV T) h e).mono fun v H1 ⟨M1, x, st1, s1, x1, r1, h1⟩ => by
    refine ⟨M1, x, ρ, st1, s1, r1, e.ex x1, ?_⟩
    cases q : g x ρ st1 with
    | none => simp only [q] at h1; exact h1.elim
    | some p =>
      obtain ⟨ρ', st'⟩ := p
      simp only [q] at h1
      exact fun M2 σ2 H2 s2 x2 e2 _ => h1 M2 σ2 H2 s2 x2 e2⟩
def dAsg (i : Nat) (d : Den) : DenS := fun ρ st => (d ρ st).toS ρ fun x st => .nx (ρ.set i (some x)) st
theorem asg_of {i : Nat} {D : Ends} {σ : L2.St} {H : Hp} (h : tS T W (dAsg i d) D σ H) : tAsg (tI T W d) (gName i) D σ H := by
  obtain ⟨M, ρ, st, s, e, h⟩ := h
  exact ⟨M, ρ, st, s, e, (PostS.bind (R := RV T) h e).mono fun v H1 ⟨M1, x, st1, s1, x1, r1, h1⟩ => h1 M1 _ H1 s1 .refl ((e.ex x1).set i r1)⟩
theorem psx_set (i : Nat) {x : Str} {pos' : Pos} (hN : X.N.Nodup) (he : PX X T W e d) (hi : X.N[i]? = some x := by rfl) (hx : Loc X.env.scope x := by first | exact Or.inl rfl | exact Or.inr rfl) (hs : swapsWith e (some (.Name x pos')) pos.line X.env = pure false := by rfl)
    (hf : X.fn x = true ∨ X.env.scope.names.lookup x = some .local := by first | exact .inl rfl | exact .inr rfl) : PSX X T W (.Assign [.Name x pos'] e pos) (dAsg i d) :=
  ps_imp (ps_set hN hi hx he hs hf) fun D σ H h => asg_of h
/-- x += e -/
def dAug (i : Nat) (d : Den) (f : OpD) : DenS := fun ρ st => match ρ[i]? with
  | some (some x) => (d ρ st).toS ρ fun y st => match f x y st with
    | some (z, st) => .nx (ρ.set i (some z)) st
    | none => .bad
  | _ => .bad
theorem psx_aug (i : Nat) {x : Str} {op : Operator} {f : OpD} {pos' : Pos} (hN : X.N.Nodup) (he : PX X T W e d) (ho : PIp X op (rD T f)) (hi : X.N[i]? = some x := by rfl) (hx : Loc X.env.scope x := by first | exact Or.inl rfl | exact Or.inr rfl)
    (hf : X.fn x = true ∨ X.env.scope.names.lookup x = some .local := by first | exact .inl rfl | exact .inr rfl) : PSX X T W (.AugAssign (.Name x pos') op e pos) (dAug i d f) :=
  ps_imp (ps_aug hN hi hx he ho hf) fun D σ H ⟨M, ρ, st, s, e, h⟩ => by
    unfold dAug at h
    cases q : ρ[i]? with
    | none => simp only [q] at h; exact h.elim
    | some o =>
      cases o with
      | none => simp only [q] at h; exact h.elim
      | some x =>
        simp only [q] at h
        obtain ⟨v, e1, r⟩ := e.val i x q
        refine ⟨v, e1, M, ρ, st, s, e, (PostS.bind (R := RV T) h e).mono fun w H1 ⟨M1, y, st1, s1, x1, r1, h1⟩ => ?_⟩
        refine ⟨M1, x, y, st1, s1, r.ex x1, r1, ?_⟩
        cases q2 : f x y st1 with
        | none => simp only [q2] at h1; exact h1.elim
        | some p =>
          obtain ⟨z, st2⟩ := p
          simp only [q2] at h1
          exact fun M2 zv H2 s2 x2 r2 => h1 M2 _ H2 s2 x2 (((e.ex x1).ex x2).set i r2)

end
/-! ### slots forgotten -/
def wipeE (ρ : DEnv) : List Nat → DEnv
  | [] => ρ
  | v :: vs => (wipeE ρ vs).set v none
section
variable {T : Tb} {M M' : Mu} {H : Hp} {st : DSto} {a : Addr} {vs ws : List V} {ρ : DEnv} {σ : L2.St}
theorem wipeE_len (ρ : DEnv) : ∀ vs, (wipeE ρ vs).length = ρ.length
  | [] => rfl
  | v :: vs => by unfold wipeE; rw [List.length_set, wipeE_len ρ vs]
theorem wipeE_some {i : Nat} {x : D} : ∀ {vs : List Nat}, (wipeE ρ vs)[i]? = some (some x) → ρ[i]? = some (some x) ∧ i ∉ vs
  | [], h => ⟨h, by simp⟩
  | v :: vs, h => by
    unfold wipeE at h
    by_cases hi : v = i
    · subst hi
      by_cases hv : v < (wipeE ρ vs).length
      · rw [List.getElem?_set_self hv] at h; cases h
      · rw [List.getElem?_eq_none (by simpa using hv)] at h; cases h
    · rw [List.getElem?_set_ne hi] at h
      obtain ⟨h1, h2⟩ := wipeE_some h
      exact ⟨h1, by simp only [List.mem_cons, not_or]; exact ⟨fun e => hi e.symm, h2⟩⟩
theorem wipe_get (σ : L2.St) (i : Nat) : ∀ vs : List Nat, (wipe σ vs)[i]? = if i ∈ vs then σ[i]?.map (fun _ => none) else σ[i]?
  | [] => by simp [wipe]
  | v :: vs => by
    unfold wipe
    by_cases hi : v = i
    · subst hi
      simp only [List.mem_cons, true_or, if_true]
      by_cases hv : v < σ.length
      · rw [List.getElem?_set_self (by rw [wipe_length]; exact hv), List.getElem?_eq_getElem hv]; rfl
      · rw [List.getElem?_eq_none (by simp [wipe_length]; omega), List.getElem?_eq_none (by omega)]; rfl
    · rw [List.getElem?_set_ne hi, wipe_get σ i vs]
      simp [Ne.symm hi]
theorem EOk.wipe (e : EOk T M H ρ σ) (vs : List Nat) : EOk T M H (wipeE ρ vs) (L2.wipe σ vs) := by
  refine ⟨by rw [wipeE_len, wipe_length]; exact e.len, fun i d h => ?_⟩
  obtain ⟨h1, h2⟩ := wipeE_some h
  obtain ⟨v, e1, r⟩ := e.val i d h1
  exact ⟨v, by rw [wipe_get, if_neg h2]; exact e1, r⟩
theorem wipe_same {σ σ2 : L2.St} {vs sl : List Nat} (hl : σ2.length = σ.length) (h : ∀ j, j ∉ sl → σ2[j]? = (L2.wipe σ vs)[j]?) (hs : ∀ j ∈ sl, j ∈ vs) : L2.wipe σ2 vs = L2.wipe σ vs := by
  apply List.ext_getElem?
  intro i
  rw [wipe_get, wipe_get]
  by_cases hi : i ∈ vs
  · rw [if_pos hi, if_pos hi]
    by_cases hv : i < σ.length
    · rw [List.getElem?_eq_getElem (by omega : i < σ2.length), List.getElem?_eq_getElem hv]; rfl
    · rw [List.getElem?_eq_none (by omega : σ2.length ≤ i), List.getElem?_eq_none (by omega)]
  · rw [if_neg hi, if_neg hi, h i fun z => hi (hs i z), wipe_get, if_neg hi]
theorem EOk.wipeOnly (e : EOk T M H ρ σ) (vs : List Nat) : EOk T M H (wipeE ρ vs) σ := by
  refine ⟨by rw [wipeE_len]; exact e.len, fun i d h => ?_⟩
  obtain ⟨h1, h2⟩ := wipeE_some h
  exact e.val i d h1
end
/-- the slots told by value; what did not change is as it was -/
def popE (lo : Nat) (st' : DSto) : DEnv → DEnv → Option DEnv
  | o :: os, p :: ps => if p = o then (popE lo st' os ps).map (o :: ·) else match p with
    | none => (popE lo st' os ps).map (none :: ·)
    | some d => (fzD lo st' d).bind fun e => (popE lo st' os ps).map (some e :: ·)
  | _, [] => some []
  | [], _ :: _ => none
section
variable {T : Tb} {M M' : Mu} {H H' : Hp} {st st' : DSto} {ρ ρ' ρ2 : DEnv} {σ σ' : L2.St}
theorem popE_len {lo : Nat} {st' : DSto} : ∀ {a b c : DEnv}, popE lo st' a b = some c → c.length = b.length
  | [], [], c, h => by cases h; rfl
  | _ :: _, [], c, h => by cases h; rfl
  | [], _ :: _, c, h => by cases h
  | o :: os, p :: ps, c, h => by
    unfold popE at h
    split at h
    · obtain ⟨d, h1, rfl⟩ := Option.map_eq_some_iff.mp h
      simp [popE_len h1]
    · cases p with
      | none =>
        obtain ⟨d, h1, rfl⟩ := Option.map_eq_some_iff.mp h
        simp [popE_len h1]
      | some x =>
        obtain ⟨e, _, h⟩ := Option.bind_eq_some_iff.mp h
        obtain ⟨d, h1, rfl⟩ := Option.map_eq_some_iff.mp h
        simp [popE_len h1]
theorem popE_get {lo : Nat} {st' : DSto} : ∀ {a b c : DEnv} {i : Nat} {d : D}, popE lo st' a b = some c → c[i]? = some (some d) → ∃ e, b[i]? = some (some e) ∧ ((a[i]? = some (some e) ∧ d = e) ∨ fzD lo st' e = some d)
  | [], [], c, i, d, h, q => by cases h; simp at q
  | _ :: _, [], c, i, d, h, q => by cases h; simp at q
  | [], _ :: _, c, i, d, h, q => by cases h
  | o :: os, p :: ps, c, i, d, h, q => by
    unfold popE at h
    split at h
    · rename_i hp
      obtain ⟨r, h1, rfl⟩ := Option.map_eq_some_iff.mp h
      cases i with
      | zero => simp at q; subst q; exact ⟨d, by rw [hp]; rfl, .inl ⟨rfl, rfl⟩⟩
      | succ i => simpa using popE_get h1 (by simpa using q)
    · cases p with
      | none =>
        obtain ⟨r, h1, rfl⟩ := Option.map_eq_some_iff.mp h
        cases i with
        | zero => simp at q
        | succ i => simpa using popE_get h1 (by simpa using q)
      | some x =>
        obtain ⟨e, he, h⟩ := Option.bind_eq_some_iff.mp h
        obtain ⟨r, h1, rfl⟩ := Option.map_eq_some_iff.mp h
        cases i with
        | zero => simp at q; subst q; exact ⟨x, rfl, .inr he⟩
        | succ i => simpa using popE_get h1 (by simpa using q)
theorem pop_eok (s0 : SOk T M H st) (e0 : EOk T M H ρ σ) (s : SOk T M' H' st') (x : Ex M H M' H') (e : EOk T M' H' ρ' σ') (h : popE st.length st' ρ ρ' = some ρ2) : EOk T M H' ρ2 σ' := by
  have c : Cutd st.length M' M := x.cutd s0.len
  refine ⟨by rw [popE_len h]; exact e.len, fun i d q => ?_⟩
  obtain ⟨y, e1, h1⟩ := popE_get h q
  obtain ⟨v, e2, r⟩ := e.val i y e1
  refine ⟨v, e2, ?_⟩
  rcases h1 with ⟨e3, rfl⟩ | h1
  · obtain ⟨v0, _, r0⟩ := e0.val i d e3
    exact fzD_ok s c (rs_low (Nat.le_of_eq s0.len) r0) r
  · exact fzD_ok s c h1 r
end
/-- a turn's end: the slots ws are forgotten; with pop, the store is cut to what stood at the turn's start -/
def turnE (pop : Bool) (ws : List Nat) (ρ : DEnv) (st : DSto) (ρ2 : DEnv) (st2 : DSto) : Option (DEnv × DSto) :=
  if pop = true then (popE st.length st2 ρ (wipeE ρ2 ws)).bind fun ρ3 => (popS st st2).map fun st3 => (ρ3, st3) else some (wipeE ρ2 ws, st2)
section
variable {T : Tb} {M M' : Mu} {H H' : Hp} {st st2 st3 : DSto} {ρ ρ2 ρ3 : DEnv} {σ σ' : L2.St} {pop : Bool} {ws : List Nat}
theorem turn_ok (s0 : SOk T M H st) (e0 : EOk T M H ρ σ) (s : SOk T M' H' st2) (x : Ex M H M' H') (e : EOk T M' H' ρ2 σ') (h : turnE pop ws ρ st ρ2 st2 = some (ρ3, st3)) : ∃ M3, SOk T M3 H' st3 ∧ Ex M H M3 H' ∧ EOk T M3 H' ρ3 σ' := by
  unfold turnE at h
  cases pop with
  | false =>
    cases h
    exact ⟨M', s, x, e.wipeOnly ws⟩
  | true =>
    rw [if_pos rfl] at h
    obtain ⟨ρ4, h1, h⟩ := Option.bind_eq_some_iff.mp h
    obtain ⟨st4, h2, h⟩ := Option.map_eq_some_iff.mp h
    cases h
    obtain ⟨p1, p2⟩ := pop_sok s0 s x h2
    exact ⟨M, p1, p2, pop_eok s0 e0 s x (e.wipeOnly ws) h1⟩
end

section
variable {X : Cx} {T : Tb} {W : WX} {pos : Pos} {st : Stmt} {rest : List Stmt} {a b : DenS} {e : Expr} {d : Den}
/-! ### while -/
def whileL (pop : Bool) (ws : List Nat) (c : DenT) (b : DenS) : Nat → DenS
  | 0 => fun _ _ => .bad
  | n + 1 => fun ρ st => (c ρ st).toS ρ fun k st1 => if k = true then (match b ρ st1 with
      | .nx ρ2 st2 => match turnE pop ws ρ st1 ρ2 st2 with
        | some (ρ3, st3) => whileL pop ws c b n ρ3 st3
        | none => .bad
      | .ct ρ2 st2 => match turnE pop ws ρ st1 ρ2 st2 with
        | some (ρ3, st3) => whileL pop ws c b n ρ3 st3
        | none => .bad
      | .bk ρ2 st2 => match turnE pop ws ρ st1 ρ2 st2 with
        | some (ρ3, st3) => .nx ρ3 st3
        | none => .bad
      | .rt d st2 => .rt d st2
      | .exc c fs ρ2 st2 => .exc c fs ρ2 st2
      | .bad => .bad) else .nx ρ st1
def dWhile (n : Nat) (pop : Bool) (ws : List Nat) (c : DenT) (b : DenS) : DenS := fun ρ st => whileL pop ws c b n (wipeE ρ ws) st
theorem psx_while (n : Nat) (pop : Bool) (ws : List Nat) {c : Expr} {body : List Stmt} {t : DenT} (hp : PassesOwn (model X.prog X.w) X.A X.env X.xe) (hc : PTX X T W c t) (hb : PSsX X T W body a) : PSX X T W (.While c body [] pos) (dWhile n pop ws t a) :=
  ps_imp (ps_while hp hc hb) fun D σ H ⟨M, ρ, st, s, e, h⟩ => by
    refine ⟨fun m σ' H' => ∃ M' ρ' st', SOk T M' H' st' ∧ EOk T M' H' ρ' σ' ∧ PostS T W D M' H' (whileL pop ws t a m ρ' st'), ⟨n, M, _, st, s, e.wipeOnly ws, h⟩, ?_⟩
    rintro m σ1 H1 ⟨M1, ρ1, st1, s1, e1, h1⟩
    cases m with
    | zero => exact h1.elim
    | succ m =>
      refine ⟨M1, ρ1, st1, s1, e1, (PostS.bind (R := RB) (f := _) h1 e1).mono fun k H2 ⟨M2, k', st2, s2, x2, r2, h2⟩ => ?_⟩
      obtain rfl : k' = k := r2
      have e2 := e1.ex x2
      cases k' with
      | false => exact h2 M2 σ1 H2 s2 .refl e2
      | true =>
        refine ⟨fun σ' H' => ∃ M' ρ' st', SOk T M' H' st' ∧ EOk T M' H' ρ' σ' ∧ PostS T W D M' H' (whileL pop ws t a m ρ' st'), fun σ' H' z => ⟨m, Nat.lt_succ_self m, z⟩, M2, ρ1, st2, s2, e2, ?_⟩
        simp only [if_true] at h2
        have nxt : ∀ ρ3 st3, PostS T W D M2 H2 (match turnE pop ws ρ1 st2 ρ3 st3 with | some (ρ4, st4) => whileL pop ws t a m ρ4 st4 | none => .bad) →
            ∀ M' σ' H', SOk T M' H' st3 → Ex M2 H2 M' H' → EOk T M' H' ρ3 σ' → ∃ M' ρ' st', SOk T M' H' st' ∧ EOk T M' H' ρ' σ' ∧ PostS T W D M' H' (whileL pop ws t a m ρ' st') := fun ρ3 st3 h M3 σ3 H3 s3 x3 e3 => by
          cases q : turnE pop ws ρ1 st2 ρ3 st3 with
          | none => simp only [q] at h; exact h.elim
          | some p =>
            obtain ⟨ρ4, st4⟩ := p
            simp only [q] at h
            obtain ⟨M4, s4, x4, e4⟩ := turn_ok s2 e2 s3 x3 e3 q
            exact ⟨M4, ρ4, st4, s4, e4, PostS.ex h x4⟩
        cases q : a ρ1 st2 with
        | nx ρ3 st3 => simp only [q] at h2; exact nxt ρ3 st3 h2
        | ct ρ3 st3 => simp only [q] at h2; exact nxt ρ3 st3 h2
        | bk ρ3 st3 =>
          simp only [q] at h2
          intro M3 σ3 H3 s3 x3 e3
          cases q2 : turnE pop ws ρ1 st2 ρ3 st3 with
          | none => simp only [q2] at h2; exact h2.elim
          | some p =>
            obtain ⟨ρ4, st4⟩ := p
            simp only [q2] at h2
            obtain ⟨M4, s4, x4, e4⟩ := turn_ok s2 e2 s3 x3 e3 q2
            exact h2 M4 _ H3 s4 x4 e4
        | rt d st3 => simp only [q] at h2; exact h2
        | exc c fs ρ3 st3 => simp only [q] at h2; exact h2
        | bad => simp only [q] at h2; exact h2

/-! ### what is walked -/
abbrev Chk := List (Nat × DObj)
def chkB (c : Chk) (st : DSto) : Bool := c.all fun p => decide (st[p.1]? = some p.2)
def IterOk (T : Tb) (M0 : Mu) (H0 : Hp) (p : List D × Chk) (J : It) : Prop :=
  ∀ (i : Nat) (M : Mu) (st : DSto) (H : Hp), Mo M0 H0 M H → SOk T M H st → chkB p.2 st = true →
    (∀ d, p.1[i]? = some d → J.go i H ∧ ∀ x H', J.yld i H x H' → SOk T M H' st ∧ Ex M H M H' ∧ RV T M H' d x) ∧ (p.1.length ≤ i → J.stop i H)
abbrev DenI := DEnv → DSto → DRes (List D × Chk)
def tIt (T : Tb) (W : WX) (d : DenI) : TI := fun σ H R => ∃ M ρ st, SOk T M H st ∧ EOk T M H ρ σ ∧ Post T (IterOk T) W σ M H (d ρ st) R
abbrev PIX (X : Cx) (T : Tb) (W : WX) (tg iter : Expr) (d : DenI) : Prop := PI X tg iter (tIt T W d)
theorem pi_imp {tg iter : Expr} {t t' : TI} (h : PI X tg iter t) (f : ∀ σ H Q, t' σ H Q → t σ H Q) : PI X tg iter t' := ⟨fun pins s σ H Q I q => h.run pins s σ H Q I (f σ H Q q)⟩
def forL (pop : Bool) (ws : List Nat) (c : Chk) (g : DenG) (b : DenS) : List D → DenS
  | [] => fun ρ st => if chkB c st = true then .nx ρ st else .bad
  | x :: xs => fun ρ st => if chkB c st = true then (match g x ρ st with
      | none => .bad
      | some (ρ1, st1) => match b ρ1 st1 with
        | .nx ρ2 st2 => match turnE pop ws ρ st ρ2 st2 with
          | some (ρ3, st3) => forL pop ws c g b xs ρ3 st3
          | none => .bad
        | .ct ρ2 st2 => match turnE pop ws ρ st ρ2 st2 with
          | some (ρ3, st3) => forL pop ws c g b xs ρ3 st3
          | none => .bad
        | .bk ρ2 st2 => match turnE pop ws ρ st ρ2 st2 with
          | some (ρ3, st3) => .nx ρ3 st3
          | none => .bad
        | .rt d st2 => .rt d st2
        | .exc c fs ρ2 st2 => .exc c fs ρ2 st2
        | .bad => .bad) else .bad
def dFor (pop : Bool) (ws : List Nat) (di : DenI) (g : DenG) (b : DenS) : DenS := fun ρ st => (di ρ st).toS ρ fun p st => forL pop ws p.2 g b p.1 (wipeE ρ ws) st
theorem psx_for (pop : Bool) (ws : List Nat) {tg iter : Expr} {body : List Stmt} {sl : List Nat} {di : DenI} {g : DenG} (hp : PassesOwn (model X.prog X.w) X.A X.env X.xe) (hc : X.calm = true) (hi : PIX X T W tg iter di) (hg : PGX X T sl tg g) (hb : PSsX X T W body a)
    (hs : ∀ x, foldedSetIterable iter X.env x = pure x := by intro _; rfl) : PSX X T W (.For tg iter body [] pos) (dFor pop ws di g a) :=
  ps_imp (ps_for hp hc hi hg hb hs) fun D σ H ⟨M, ρ, st, s, e, h⟩ => ⟨M, ρ, st, s, e, (PostS.bind (R := IterOk T) h e).mono fun J H1 ⟨M1, p, st1, s1, x1, r1, h1⟩ => by
    obtain ⟨src, chk⟩ := p
    refine ⟨fun i m σ' H' => m = src.length - i ∧ i ≤ src.length ∧ ∃ M' ρ' st', SOk T M' H' st' ∧ Ex M1 H1 M' H' ∧ EOk T M' H' ρ' σ' ∧ PostS T W D M' H' (forL pop ws chk g a (src.drop i) ρ' st'),
      ⟨_, rfl, Nat.zero_le _, M1, _, st1, s1, .refl, (e.ex x1).wipeOnly ws, h1⟩, ?_⟩
    rintro i m σ2 H2 ⟨rfl, hi2, M2, ρ2, st2, s2, x2, e2, h2⟩
    by_cases hlt : i < src.length
    · rw [List.drop_eq_getElem_cons hlt] at h2
      unfold forL at h2
      by_cases hk : chkB chk st2 = true
      · rw [if_pos hk] at h2
        obtain ⟨k1, _⟩ := r1 i M2 st2 H2 x2.mo s2 hk
        obtain ⟨go, yld⟩ := k1 src[i] (List.getElem?_eq_getElem hlt)
        refine .inr ⟨go, fun σ' H' => ∃ M' ρ' st', SOk T M' H' st' ∧ Ex M1 H1 M' H' ∧ EOk T M' H' ρ' σ' ∧ PostS T W D M' H' (forL pop ws chk g a (src.drop (i + 1)) ρ' st'), fun σ' H' z => ⟨src.length - (i + 1), by omega, rfl, hlt, z⟩, fun x H3 y => ?_⟩
        obtain ⟨s3, x3, r3⟩ := yld x H3 y
        have e3 := e2.ex x3
        have h2 := PostS.ex h2 x3
        refine ⟨M2, src[i], ρ2, st2, s3, r3, e3, ?_⟩
        cases q : g src[i] ρ2 st2 with
        | none => simp only [q] at h2; exact h2.elim
        | some pp =>
          obtain ⟨ρ4, st4⟩ := pp
          simp only [q] at h2
          intro M4 σ4 H4 s4 x4 e4 _
          refine ⟨M4, ρ4, st4, s4, e4, ?_⟩
          have nxt : ∀ ρ5 st5, PostS T W D M2 H3 (match turnE pop ws ρ2 st2 ρ5 st5 with | some (ρ6, st6) => forL pop ws chk g a (src.drop (i + 1)) ρ6 st6 | none => .bad) →
              ∀ M' σ' H', SOk T M' H' st5 → Ex M4 H4 M' H' → EOk T M' H' ρ5 σ' → ∃ M' ρ' st', SOk T M' H' st' ∧ Ex M1 H1 M' H' ∧ EOk T M' H' ρ' σ' ∧ PostS T W D M' H' (forL pop ws chk g a (src.drop (i + 1)) ρ' st') := fun ρ5 st5 h M5 σ5 H5 s5 x5 e5 => by
            cases q : turnE pop ws ρ2 st2 ρ5 st5 with
            | none => simp only [q] at h; exact h.elim
            | some p =>
              obtain ⟨ρ6, st6⟩ := p
              simp only [q] at h
              obtain ⟨M6, s6, x6, e6⟩ := turn_ok s3 e3 s5 (x4.trans x5) e5 q
              exact ⟨M6, ρ6, st6, s6, (x2.trans x3).trans x6, e6, PostS.ex h x6⟩
          cases q2 : a ρ4 st4 with
          | nx ρ5 st5 => simp only [q2] at h2; exact nxt ρ5 st5 h2
          | ct ρ5 st5 => simp only [q2] at h2; exact nxt ρ5 st5 h2
          | bk ρ5 st5 =>
            simp only [q2] at h2
            intro M5 σ5 H5 s5 x5 e5
            cases q3 : turnE pop ws ρ2 st2 ρ5 st5 with
            | none => simp only [q3] at h2; exact h2.elim
            | some p =>
              obtain ⟨ρ6, st6⟩ := p
              simp only [q3] at h2
              obtain ⟨M6, s6, x6, e6⟩ := turn_ok s3 e3 s5 (x4.trans x5) e5 q3
              exact h2 M6 _ H5 s6 x6 e6
          | rt d st5 => simp only [q2] at h2; exact PostS.ex h2 x4
          | exc c fs ρ5 st5 => simp only [q2] at h2; exact PostS.ex h2 x4
          | bad => simp only [q2] at h2; exact h2.elim
      · rw [if_neg hk] at h2; exact h2.elim
    · obtain rfl : i = src.length := by omega
      rw [List.drop_eq_nil_of_le (Nat.le_refl _)] at h2
      unfold forL at h2
      by_cases hk : chkB chk st2 = true
      · rw [if_pos hk] at h2
        exact .inl ⟨(r1 _ M2 st2 H2 x2.mo s2 hk).2 (Nat.le_refl _), h2 M2 σ2 H2 s2 .refl e2⟩
      · rw [if_neg hk] at h2; exact h2.elim⟩
end
end FV

set_option Elab.async false
set_option linter.all false
set_option maxRecDepth 100000
set_option maxHeartbeats 4000000
namespace FV
open PySem PySem.Spec PyProof.Rows L2

/-! ### lists and tuples walked -/
def dISeq (d : Den) : DenI := fun ρ st => (d ρ st).bind fun x st => match x with
  | .tup xs => .ok (xs, []) st
  | .lst xs => .ok (xs, []) st
  | .ref n => match st[n]? with
    | some (.lst xs) => .ok (xs, [(n, .lst xs)]) st
    | _ => .bad
  | .scr ns => .ok (ns.map D.int, []) st
  | _ => .bad
section
variable {X : Cx} {T : Tb} {W : WX} {pos : Pos} {tg e : Expr} {d : Den}
def iSeq (K : PySem.W.Frag) (tl : TE) : TI := fun σ H R => tl σ H fun x H1 => ∃ a, x = .ref a ∧ (((∃ xs, SqL K H1 a xs) ∧ R (Itl K a) H1) ∨ ((∃ xs, SqT K H1 a xs) ∧ R (Itt K a) H1))
theorem pi_seq {l : Expr} {tl : TE} (hl : PE X l tl) : PI X tg l (iSeq X.K tl) := by
  refine ⟨fun pins s σ H R I h => ?_⟩
  refine thn (hl.run pins s σ H _ I h) fun v s1 ⟨x, H1, I1, r1, q1⟩ => ?_
  obtain ⟨a, e, q⟩ := q1
  subst e
  cases r1
  rcases q with ⟨⟨xs, hq⟩, q⟩ | ⟨⟨xs, hq⟩, q⟩
  · obtain ⟨its, rv, p, hz⟩ := I1.list hq
    refine wpAny_pyIter_list p.isList ?_
    refine ⟨s1.heap.objs.size, [s1.heap.objs.size], _, _, H1, rfl, I1.kept (t' := s1.toks) fun b o e => Heap.get?_push_of_some _ e, turn_list a _, ⟨_, Heap.get?_push_size _ rfl, rfl, rfl⟩, fun b hb => ?_, q⟩
    have e : b = s1.heap.objs.size := by simpa using hb
    subst e
    exact I1.fpOk (Nat.le_refl _) (I1.hok.fresh (Nat.le_refl _))
  · obtain ⟨its, rv, p, hz⟩ := I1.tuple hq
    refine wpAny_pyIter_tuple (show s1.heap.IsTuple a its.toArray from p) ?_
    refine ⟨s1.heap.objs.size, [s1.heap.objs.size], _, _, H1, rfl, I1.kept (t' := s1.toks) fun b o e => Heap.get?_push_of_some _ e, turn_tuple a _, ⟨_, Heap.get?_push_size _ rfl, rfl, rfl⟩, fun b hb => ?_, q⟩
    have e : b = s1.heap.objs.size := by simpa using hb
    subst e
    exact I1.fpOk (Nat.le_refl _) (I1.hok.fresh (Nat.le_refl _))
end
section
variable {T : Tb} {M M0 : Mu} {H H0 : Hp} {st : DSto} {a : Addr}
theorem chk_one {n : Nat} {o : DObj} (h : chkB [(n, o)] st = true) : st[n]? = some o := by
  unfold chkB at h
  rw [List.all_cons, Bool.and_eq_true] at h
  exact of_decide_eq_true h.1
/-- the walk of a list whose items are known wherever it stands -/
theorem iterOk_lst {xs : List D} {chk : Chk} (f : ∀ (M : Mu) (st : DSto) (H : Hp), Mo M0 H0 M H → SOk T M H st → chkB chk st = true → ∃ vs, RVs T M H xs vs ∧ SqL T.K H a vs) : IterOk T M0 H0 (xs, chk) (Itl T.K a) := by
  intro i M st H x s k
  obtain ⟨vs, r, u⟩ := f M st H x s k
  refine ⟨fun d e => ?_, fun hl => ⟨vs, u, by rw [r.len]; exact hl⟩⟩
  obtain ⟨v, e1, r1⟩ := r.get e
  refine ⟨⟨vs, v, u, e1⟩, fun y H' hy => ?_⟩
  obtain ⟨rfl, hy⟩ := hy
  have e2 := hy vs (u)
  rw [e1] at e2; cases e2
  exact ⟨s, .refl, r1⟩
theorem iterOk_tup {xs : List D} {vs : List V} (f : Fr M0 a) (h : H0 a = some (.tup vs)) (r : RVs T M0 H0 xs vs) : IterOk T M0 H0 (xs, []) (Itt T.K a) := by
  intro i M st H x s k
  have h1 : SqT T.K H a vs := SqT.of (x.by_ _ _ h f).1
  have r1 := r.mo x
  refine ⟨fun d e => ?_, fun hl => ⟨vs, h1, by rw [r1.len]; exact hl⟩⟩
  obtain ⟨v, e1, r2⟩ := r1.get e
  refine ⟨⟨vs, v, h1, e1⟩, fun y H' hy => ?_⟩
  obtain ⟨rfl, hy⟩ := hy
  have e2 := hy vs h1
  rw [e1] at e2; cases e2
  exact ⟨s, .refl, r2⟩
end



section
variable {X : Cx} {T : Tb} {W : WX} {pos : Pos} {tg e : Expr} {d : Den}
theorem sqL_of {K : PySem.W.Frag} {M : Mu} {H : Hp} {xs : List D} {a : Addr} (h : RO T M H (.lst xs) a) : ∃ vs, RVs T M H xs vs ∧ SqL K H a vs := by
  obtain ⟨vs, e1, r⟩ := h
  exact ⟨vs, r, SqL.of e1⟩
theorem sqL_scr {M : Mu} {H : Hp} {xs : List V} {a : Addr} (h : (∃ o, Fr M a ∧ H a = some (.frz o (.lst xs))) ∨ SqK T.K a xs) : SqL T.K H a xs := by
  rcases h with ⟨o, _, e1⟩ | e1
  · exact .inl (.inr ⟨o, e1⟩)
  · exact .inr e1
theorem pix_seq (hF : Fits X T W) (h : PX X T W e d) : PIX X T W tg e (dISeq d) :=
  pi_imp (pi_seq h) fun σ H R ⟨M, ρ, st, s, e, h⟩ => ⟨M, ρ, st, s, e, (Post.bind (R := RV T) h).mono fun v H1 ⟨M1, x, st1, s1, x1, r1, h1⟩ => by
    have hK := hF.K
    cases x with
    | tup xs =>
      simp only [RV] at r1
      obtain ⟨a, vs, rfl, f, e1, rr⟩ := r1
      exact ⟨a, rfl, .inr ⟨⟨vs, SqT.of e1⟩, h1 M1 _ H1 s1 .refl (by rw [hK]; exact iterOk_tup f e1 rr)⟩⟩
    | lst xs =>
      simp only [RV] at r1
      obtain ⟨a, vs, rfl, f, e1, rr⟩ := r1
      exact ⟨a, rfl, .inl ⟨⟨vs, SqL.of e1⟩, h1 M1 _ H1 s1 .refl (by
        rw [hK]
        exact iterOk_lst fun M2 st2 H2 x2 s2 k2 => ⟨vs, rr.mo x2, SqL.of (x2.by_ _ _ e1 f).1⟩)⟩⟩
    | ref n =>
      simp only [RV] at r1
      obtain ⟨a, rfl, e1⟩ := r1
      cases q : st1[n]? with
      | none => simp only [q] at h1; exact h1.elim
      | some o =>
        have ro := s1.ro n o a q e1
        cases o with
        | lst xs =>
          simp only [q] at h1
          obtain ⟨vs, rr, sq⟩ := sqL_of (K := X.K) ro
          refine ⟨a, rfl, .inl ⟨⟨vs, sq⟩, h1 M1 _ H1 s1 .refl ?_⟩⟩
          rw [hK]
          exact iterOk_lst fun M2 st2 H2 x2 s2 k2 => sqL_of (s2.ro n _ a (chk_one k2) (x2.get _ _ e1))
        | ins c fs => simp only [q] at h1; exact h1.elim
        | dct t kvs => simp only [q] at h1; exact h1.elim
        | dead => simp only [q] at h1; exact h1.elim
    | scr ns =>
      simp only [RV] at r1
      obtain ⟨a, rfl, e1⟩ := r1
      refine ⟨a, rfl, .inl ⟨⟨_, by rw [hK]; exact sqL_scr e1⟩, h1 M1 _ H1 s1 .refl ?_⟩⟩
      rw [hK]
      exact iterOk_lst fun M2 st2 H2 x2 s2 k2 => ⟨_, rvs_ints ns, sqL_scr (M := M2) (e1.imp (fun ⟨o, f, z⟩ => ⟨o, (x2.by_ _ _ z f).2, (x2.by_ _ _ z f).1⟩) id)⟩
    | _ => exact h1.elim⟩
/-! ### ranges -/
def rngD (lo : Int) : Nat → List D
  | 0 => []
  | n + 1 => .int lo :: rngD (lo + 1) n
theorem rngD_len (n : Nat) : ∀ lo, (rngD lo n).length = n := by
  induction n with
  | zero => intro lo; rfl
  | succ n ih => intro lo; simp [rngD, ih]
theorem rngD_get : ∀ (n : Nat) (lo : Int) (i : Nat), i < n → (rngD lo n)[i]? = some (.int (lo + i))
  | 0, _, _, h => by omega
  | n + 1, lo, 0, _ => by simp [rngD]
  | n + 1, lo, i + 1, h => by
    show (rngD (lo + 1) n)[i]? = _
    rw [rngD_get n (lo + 1) i (by omega)]
    congr 2
    omega
theorem iterOk_rng {M0 : Mu} {H0 : Hp} (lo : Int) (n : Nat) : IterOk T M0 H0 (rngD lo n, []) (Itr lo n) := by
  intro i M st H x s k
  refine ⟨fun d e => ?_, fun hl => by rw [rngD_len] at hl; exact hl⟩
  have hi := (List.getElem?_eq_some_iff.mp e).1
  dsimp only at hi
  rw [rngD_len] at hi
  refine ⟨hi, fun y H' ⟨e1, e2⟩ => ?_⟩
  subst e1
  rw [rngD_get n lo i hi] at e
  cases e
  exact ⟨s, .refl, by simp [RV, e2]⟩
def dIRng1 (d : Den) : DenI := fun ρ st => (d ρ st).bind fun x st => match x with
  | .int j => if -(2 ^ 62) ≤ j ∧ j < 2 ^ 62 then .ok (rngD 0 j.toNat, []) st else .bad
  | _ => .bad
def dIRng2 (a b : Den) : DenI := fun ρ st => (a ρ st).bind fun x st => (b ρ st).bind fun y st => match x, y with
  | .int i, .int j => if -(2 ^ 62) ≤ i ∧ i < 2 ^ 62 ∧ -(2 ^ 62) ≤ j ∧ j < 2 ^ 62 then .ok (rngD i (j - i).toNat, []) st else .bad
  | _, _ => .bad
theorem pix_rng1 {a : Expr} {p : Pos} (hg : Gl X "range") (hm : X.mg "range" = none) (ha : PX X T W a d) (hs : starEach [a] X.env = [(false, eval a X.env)] := by rfl) : PIX X T W tg (.Call (.Name "range" p) [a] [] pos) (dIRng1 d) :=
  pi_imp (pi_range1 hg hm (pa_cons ha pa_nil hs) hs) fun σ H R ⟨M, ρ, st, s, e, h⟩ => ⟨M, ρ, st, s, e, (Post.bind (R := RV T) h).mono fun v H1 ⟨M1, x, st1, s1, x1, r1, h1⟩ => by
    cases x with
    | int j =>
      simp only [RV] at r1
      subst r1
      dsimp only at h1
      by_cases hz : -(2 ^ 62) ≤ j ∧ j < 2 ^ 62
      · rw [if_pos hz] at h1
        exact ⟨j, rfl, hz.1, hz.2, h1 M1 _ H1 s1 .refl (iterOk_rng 0 j.toNat)⟩
      · rw [if_neg hz] at h1; exact h1.elim
    | _ => exact h1.elim⟩
theorem pix_rng2 {a b : Expr} {da db : Den} {p : Pos} (hg : Gl X "range") (hm : X.mg "range" = none) (ha : PX X T W a da) (hb : PX X T W b db) (hs : starEach [a, b] X.env = [(false, eval a X.env), (false, eval b X.env)] := by rfl) (hs2 : starEach [b] X.env = [(false, eval b X.env)] := by rfl) :
    PIX X T W tg (.Call (.Name "range" p) [a, b] [] pos) (dIRng2 da db) :=
  pi_imp (pi_range2 hg hm (pa_cons ha (pa_cons hb pa_nil hs2) (by rw [hs, hs2])) hs hs2) fun σ H R ⟨M, ρ, st, s, e, h⟩ => ⟨M, ρ, st, s, e, (Post.bind (R := RV T) h).mono fun v H1 ⟨M1, x, st1, s1, x1, r1, h1⟩ => by
    refine ⟨M1, ρ, st1, s1, e.ex x1, (Post.bind (R := RV T) h1).mono fun u H2 ⟨M2, y, st2, s2, x2, r2, h2⟩ => ?_⟩
    have r1 := r1.ex x2
    cases x with
    | int i =>
      cases y with
      | int j =>
        simp only [RV] at r1 r2
        subst r1 r2
        dsimp only at h2
        by_cases hz : -(2 ^ 62) ≤ i ∧ i < 2 ^ 62 ∧ -(2 ^ 62) ≤ j ∧ j < 2 ^ 62
        · rw [if_pos hz] at h2
          exact ⟨i, j, rfl, hz, h2 M2 _ H2 s2 .refl (iterOk_rng i (j - i).toNat)⟩
        · rw [if_neg hz] at h2; exact h2.elim
      | _ => exact h2.elim
    | _ => exact h2.elim⟩
end

/-! ### list comprehensions -/
def compL (c : Chk) (vs : List Nat) (g : DenG) (step : DEnv → List D → DSto → Option (List D × DSto)) (ρ : DEnv) : List D → List D → DSto → Option (List D × DSto)
  | [], acc, st => if chkB c st = true then some (acc, st) else none
  | x :: xs, acc, st => if chkB c st = true then (match g x (wipeE ρ vs) st with
      | none => none
      | some (ρ1, st1) => match step ρ1 acc st1 with
        | none => none
        | some (acc2, st2) => compL c vs g step ρ xs acc2 st2) else none
def stepE (t : DenT) (e : Den) (ρ : DEnv) (acc : List D) (st : DSto) : Option (List D × DSto) := match t ρ st with
  | .ok true st2 => match e ρ st2 with
    | .ok y st3 => if acc.length < sizeLine then some (acc ++ [y], st3) else none
    | _ => none
  | .ok false st2 => some (acc, st2)
  | _ => none
def stepC (t : DenT) (di : DenI) (vs : List Nat) (g : DenG) (step : DEnv → List D → DSto → Option (List D × DSto)) (ρ : DEnv) (acc : List D) (st : DSto) : Option (List D × DSto) := match t ρ st with
  | .ok true st2 => match di ρ st2 with
    | .ok (src, chk) st3 => compL chk vs g step ρ src acc st3
    | _ => none
  | .ok false st2 => some (acc, st2)
  | _ => none
def dYes : DenT := fun _ st => .ok true st
abbrev WN : WX := fun _ _ _ _ => False
section
variable {T : Tb} {M M' M0 M1 : Mu} {H H' H0 H1 : Hp} {st st1 : DSto} {dd : Addr} {vs ws : List V} {ρ : DEnv} {σ : L2.St}
/-- a list beside the store grows -/
theorem mo_side {o : HO} (hd : dd ∈ M.x) : Mo M H M (upd H dd o) := by
  refine ⟨fun _ _ h => h, fun b u h k => ⟨?_, k⟩⟩
  rw [upd_ne]; exact h
  rintro rfl; exact k.2 hd
theorem sok_side {o : HO} (s : SOk T M H st) (hd : dd ∈ M.x) : SOk T M (upd H dd o) st := by
  refine ⟨s.len, fun i ob b e1 e2 => (s.ro i ob b e1 e2).mo (mo_side hd) fun u h => ?_, s.inj, s.dis, fun b hb => upd_some (s.bld b hb)⟩
  rw [upd_ne]; exact h
  rintro rfl; exact s.dis _ (List.mem_of_getElem? e2) hd
theorem mo_build {o : HO} (hp : H dd = none) : Mo M H (M.build dd) (upd H dd o) := ⟨fun _ _ h => h, fun a u h k => ⟨by rw [upd_ne (ne_of_none h hp)]; exact h, k.1, fun z => by
    rcases List.mem_cons.mp z with z | z
    · rw [z, hp] at h; cases h
    · exact k.2 z⟩⟩
/-- the list's making -/
theorem sok_build {o : HO} (s : SOk T M H st) (hp : H dd = none) : SOk T (M.build dd) (upd H dd o) st := by
  have f := s.fresh hp
  refine ⟨s.len, fun i ob b e1 e2 => (s.ro i ob b e1 e2).mo (mo_build hp) fun u z => by rw [upd_ne (ne_of_none z hp)]; exact z, s.inj, fun a ha z => ?_, fun b hb => ?_⟩
  · rcases List.mem_cons.mp z with z | z
    · exact f.1 (z ▸ ha)
    · exact s.dis a ha z
  · rcases List.mem_cons.mp hb with z | z
    · subst z; exact ⟨_, upd_same⟩
    · exact upd_some (s.bld b z)
/-- what a comprehension's list and store look like between two turns; dd was made behind (M1, H1) -/
structure CompIn (T : Tb) (M1 : Mu) (H1 : Hp) (dd : Addr) (M : Mu) (acc : List D) (st : DSto) (H : Hp) (vs : List V) : Prop where
  s : SOk T M H st
  h0 : H1 dd = none
  x : Ex M1 H1 ⟨M.l, M1.x⟩ H
  bx : M.x = dd :: M1.x
  d : H dd = some (.lst vs)
  r : RVs T M H acc vs
theorem CompIn.start (s1 : SOk T M1 H1 st1) (h0 : H1 dd = none) : CompIn T M1 H1 dd (M1.build dd) [] st1 (upd H1 dd (.lst [])) [] :=
  ⟨sok_build s1 h0, h0, ⟨⟨[], by simp⟩, rfl, fun a o h _ => by rw [upd_ne (ne_of_none h h0)]; exact h, fun a h n => absurd h n⟩, rfl, upd_same, by simp [RVs]⟩
theorem CompIn.ix {acc : List D} (c : CompIn T M1 H1 dd M acc st H vs) : dd ∈ M.x := by rw [c.bx]; exact List.mem_cons_self
/-- the elements' code runs -/
theorem CompIn.go {acc : List D} {st' : DSto} (c : CompIn T M1 H1 dd M acc st H vs) (s' : SOk T M' H' st') (x : Ex M H M' H') : CompIn T M1 H1 dd M' acc st' H' vs := by
  have nd : dd ∉ M.l := fun z => c.s.dis dd z c.ix
  obtain ⟨n1, e1⟩ := c.x.pre
  obtain ⟨n2, e2⟩ := x.pre
  refine ⟨s', c.h0, ⟨⟨n1 ++ n2, ?_⟩, rfl, fun a o h f => ?_, fun a h n => ?_⟩, by rw [x.x, c.bx], x.fr dd _ c.d nd, c.r.ex x⟩
  · show M'.l = _
    rw [e2, show M.l = M1.l ++ n1 from e1, List.append_assoc]
  · refine x.fr a o (c.x.fr a o h f) fun z => ?_
    have := (c.x.nw a z f).1
    rw [h] at this; cases this
  · by_cases z : a ∈ M.l
    · exact c.x.nw a z n
    · obtain ⟨y1, y2⟩ := x.nw a h z
      refine ⟨?_, fun q => y2 (by rw [c.bx]; exact List.mem_cons_of_mem _ q)⟩
      cases q : H1 a with
      | none => rfl
      | some o =>
        have := c.x.fr a o q n
        rw [y1] at this; cases this
/-- an item more -/
theorem CompIn.push {acc : List D} {y : D} {v : V} (c : CompIn T M1 H1 dd M acc st H vs) (r : RV T M H y v) : CompIn T M1 H1 dd M (acc ++ [y]) st (upd H dd (.lst (vs ++ [v]))) (vs ++ [v]) :=
  ⟨sok_side c.s c.ix, c.h0, ⟨c.x.pre, rfl, fun a o h f => by rw [upd_ne (ne_of_none h c.h0)]; exact c.x.fr a o h f, c.x.nw⟩, c.bx, upd_same, (c.r.app (RVs.one r)).mo (mo_side c.ix)⟩
/-- the end: by value -/
theorem CompIn.endV {acc : List D} (s1 : SOk T M1 H1 st1) (c : CompIn T M1 H1 dd M acc st H vs) :
    SOk T ⟨M.l, M1.x⟩ H st ∧ Ex M1 H1 ⟨M.l, M1.x⟩ H ∧ RV T ⟨M.l, M1.x⟩ H (.lst acc) (.ref dd) := by
  have hx := c.bx
  have mo : Mo M H ⟨M.l, M1.x⟩ H := ⟨fun _ _ h => h, fun a u h k => ⟨h, k.1, fun z => k.2 (by rw [hx]; exact List.mem_cons_of_mem _ z)⟩⟩
  have f := s1.fresh c.h0
  refine ⟨⟨c.s.len, fun i ob b e1 e2 => (c.s.ro i ob b e1 e2).mo mo fun u z => z, c.s.inj, fun a ha z => c.s.dis a ha (by rw [hx]; exact List.mem_cons_of_mem _ z), fun b hb => c.s.bld b (by rw [hx]; exact List.mem_cons_of_mem _ hb)⟩, c.x, ?_⟩
  simp only [RV]
  exact ⟨dd, vs, rfl, ⟨fun z => c.s.dis dd z c.ix, f.2⟩, c.d, c.r.mo mo⟩
/-- .. entering the store -/
theorem CompIn.endR {acc : List D} (s1 : SOk T M1 H1 st1) (c : CompIn T M1 H1 dd M acc st H vs) :
    SOk T ⟨M.l ++ [dd], M1.x⟩ H (st ++ [.lst acc]) ∧ Ex M1 H1 ⟨M.l ++ [dd], M1.x⟩ H ∧ RV T ⟨M.l ++ [dd], M1.x⟩ H (.ref st.length) (.ref dd) := by
  have hx := c.bx
  have mo : Mo M H ⟨M.l ++ [dd], M1.x⟩ H := ⟨fun n a h => by
      show (M.l ++ [dd])[n]? = _
      rw [List.getElem?_append_left (List.getElem?_eq_some_iff.mp h).1]; exact h, fun a u h k => ⟨h, fun z => by
      rcases List.mem_append.mp z with z | z
      · exact k.1 z
      · exact k.2 (by rw [hx, List.mem_singleton.mp z]; exact List.mem_cons_self), fun z => k.2 (by rw [hx]; exact List.mem_cons_of_mem _ z)⟩⟩
  have f := s1.fresh c.h0
  obtain ⟨v1, v2, _⟩ := c.endV s1
  refine ⟨sok_snoc (x := M1.x) c.s mo (fun _ _ _ h => h) (fun z => c.s.dis dd z c.ix) (fun b hb => ⟨by rw [hx]; exact List.mem_cons_of_mem _ hb, fun z => f.2 (z ▸ hb)⟩) v1.bld ⟨vs, c.d, c.r.mo mo⟩, ⟨?_, rfl, v2.fr, fun a h n => ?_⟩, ?_⟩
  · obtain ⟨ν, e⟩ := c.x.pre
    exact ⟨ν ++ [dd], by show M.l ++ [dd] = _; rw [show M.l = M1.l ++ ν from e, List.append_assoc]⟩
  · rcases List.mem_append.mp h with z | z
    · exact v2.nw a z n
    · rw [List.mem_singleton.mp z]; exact ⟨c.h0, f.2⟩
  · simp only [RV]
    exact ⟨dd, rfl, by show (M.l ++ [dd])[st.length]? = _; rw [← c.s.len]; simp⟩
end
section
variable {X : Cx} {T : Tb} {W : WX} {pos : Pos}
abbrev BlkAll (X : Cx) (scope : Scope) (p : Cx → Prop) : Prop := ∀ (s : Shared) (H : Hp) (C : Addr) (cl : List (Str × Addr)) (fp : List Addr), p (X.blk s H scope (compEnvC scope cl C X.env) fp)
/-- the reading's turn of the innermost element -/
theorem step_elt {t : DenT} {e : Den} {ρ : DEnv} {σ : L2.St} {dd : Addr} {acc : List D} {M1 M : Mu} {H1 H : Hp} {st : DSto} {vs : List V} {r : List D × DSto} {Nx : Hp → Prop}
    (c : CompIn T M1 H1 dd M acc st H vs) (eo : EOk T M H ρ σ) (h : stepE t e ρ acc st = some r) (hNx : ∀ H' M' vs', Mo M H M' H' → CompIn T M1 H1 dd M' r.1 r.2 H' vs' → Nx H') :
    tT T WN t σ H fun b H3 => if b = true then tI T WN e σ H3 fun y H4 => ∃ acc, H4 dd = some (.lst acc) ∧ acc.length < sizeLine ∧ Nx (upd H4 dd (.lst (acc ++ [y]))) else Nx H3 := by
  refine ⟨M, ρ, st, c.s, eo, ?_⟩
  unfold stepE at h
  cases q : t ρ st with
  | exc c fs st2 => rw [q] at h; cases h
  | bad => rw [q] at h; cases h
  | ok b st2 =>
    rw [q] at h
    intro M2 b' H2 s2 x2 rb
    obtain rfl : b = b' := rb
    have c2 := c.go s2 x2
    cases b with
    | false =>
      cases h
      exact hNx H2 M2 vs x2.mo c2
    | true =>
      refine ⟨M2, ρ, st2, s2, eo.ex x2, ?_⟩
      dsimp only at h
      cases q2 : e ρ st2 with
      | exc c fs st3 => rw [q2] at h; cases h
      | bad => rw [q2] at h; cases h
      | ok y st3 =>
        rw [q2] at h
        dsimp only at h
        by_cases hz : acc.length < sizeLine
        · rw [if_pos hz] at h
          cases h
          intro M3 v H3 s3 x3 r3
          have c3 := c2.go s3 x3
          exact ⟨vs, c3.d, by rw [c3.r.len]; exact hz, hNx _ M3 (vs ++ [v]) ((x2.mo.trans x3.mo).trans (mo_side c3.ix)) (c3.push r3)⟩
        · rw [if_neg hz] at h; cases h
theorem ptsx_nil : PTs X [] (tT T W dYes) := ⟨fun pins s σ H Q I ⟨M, ρ, st, so, e, h⟩ => pts_nil.run pins s σ H Q I (h M true H so .refl rfl)⟩
theorem ptsx_one {c : Expr} {t : DenT} (h : PTX X T W c t) : PTs X [c] (tT T W t) := pts_one h
/-- how a comprehension's end is met: by value, or entering the store -/
def lcEnd (v : Bool) (acc : List D) (st : DSto) : DRes D := if v = true then .ok (.lst acc) st else .ok (.ref st.length) (st ++ [.lst acc])
def dLcB (v : Bool) (di : DenI) (vs : List Nat) (g : DenG) (step : DEnv → List D → DSto → Option (List D × DSto)) : Den := fun ρ st => (di ρ st).bind fun p st1 => match compL p.2 vs g step ρ p.1 [] st1 with
  | some (acc, st2) => lcEnd v acc st2
  | none => .bad
theorem comp_end {v : Bool} {M1 M : Mu} {H1 H : Hp} {dd : Addr} {acc : List D} {st st1 : DSto} {vs : List V} {σ : L2.St} {Q : VK} (s1 : SOk T M1 H1 st1) (c : CompIn T M1 H1 dd M acc st H vs) (h : Post T (RV T) W σ M1 H1 (lcEnd v acc st) Q) : Q (.ref dd) H := by
  cases v with
  | true => obtain ⟨a, b, d⟩ := c.endV s1; exact h _ _ H a b d
  | false => obtain ⟨a, b, d⟩ := c.endR s1; exact h _ _ H a b d
/-- the reading of a comprehension with one clause -/
theorem tLc_of {v : Bool} {di : DenI} {vs sl : List Nat} {g : DenG} {t : DenT} {e : Den} (hs : ∀ j ∈ sl, j ∈ vs) {σ : L2.St} {H : Hp} {Q : VK} (h : tI T W (dLcB v di vs g (stepE t e)) σ H Q) :
    tLc (tIt T W di) (tG T sl g) (tT T WN t) (tI T WN e) vs σ H Q := by
  obtain ⟨M, ρ, st, s, eo, h⟩ := h
  refine ⟨M, ρ, st, s, eo, (Post.bind (R := IterOk T) h).mono fun J H1 ⟨M1, p, st1, s1, x1, r1, h1⟩ dd hD => ?_⟩
  obtain ⟨src, chk⟩ := p
  dsimp only at h1
  cases q : compL chk vs g (stepE t e) ρ src [] st1 with
  | none => rw [q] at h1; exact h1.elim
  | some r =>
    obtain ⟨accF, stF⟩ := r
    rw [q] at h1
    have e1 := eo.ex x1
    have m1 : Mo M1 H1 (M1.build dd) (upd H1 dd (.lst [])) := mo_build hD
    refine ⟨fun i m H' => m = src.length - i ∧ i ≤ src.length ∧ ∃ M' acc st' ws, Mo M1 H1 M' H' ∧ CompIn T M1 H1 dd M' acc st' H' ws ∧ compL chk vs g (stepE t e) ρ (src.drop i) acc st' = some (accF, stF),
      ⟨_, rfl, Nat.zero_le _, _, [], st1, [], m1, .start s1 hD, q⟩, ?_⟩
    rintro i m H2 ⟨rfl, hi2, M2, acc, st2, ws, x2, C, hc⟩
    by_cases hlt : i < src.length
    · rw [List.drop_eq_getElem_cons hlt] at hc
      unfold compL at hc
      by_cases hk : chkB chk st2 = true
      · rw [if_pos hk] at hc
        obtain ⟨k1, _⟩ := r1 i M2 st2 H2 x2 C.s hk
        obtain ⟨go, yld⟩ := k1 src[i] (List.getElem?_eq_getElem hlt)
        refine .inr ⟨go, fun H' => ∃ M' acc st' ws, Mo M1 H1 M' H' ∧ CompIn T M1 H1 dd M' acc st' H' ws ∧ compL chk vs g (stepE t e) ρ (src.drop (i + 1)) acc st' = some (accF, stF), fun H' z => ⟨src.length - (i + 1), by omega, rfl, hlt, z⟩, fun x H3 y => ?_⟩
        obtain ⟨s3, x3, r3⟩ := yld x H3 y
        have e3 : EOk T M2 H3 (wipeE ρ vs) (L2.wipe σ vs) := ((e1.mo x2).ex x3).wipe vs
        refine ⟨M2, src[i], wipeE ρ vs, st2, s3, r3, e3, ?_⟩
        cases qg : g src[i] (wipeE ρ vs) st2 with
        | none => rw [qg] at hc; cases hc
        | some pp =>
          obtain ⟨ρ4, st4⟩ := pp
          rw [qg] at hc
          dsimp only at hc
          cases qs : stepE t e ρ4 acc st4 with
          | none => rw [qs] at hc; cases hc
          | some rr =>
            rw [qs] at hc
            intro M4 σ4 H4 s4 x4 e4 k4
            refine ⟨wipe_same (by rw [k4.1, wipe_length]) k4.2 hs, ?_⟩
            have xx := x3.trans x4
            exact step_elt (C.go s4 xx) e4 qs fun H' M' vs' mo z => ⟨M', rr.1, rr.2, vs', (x2.trans xx.mo).trans mo, z, hc⟩
      · rw [if_neg hk] at hc; cases hc
    · obtain rfl : i = src.length := by omega
      rw [List.drop_eq_nil_of_le (Nat.le_refl _)] at hc
      unfold compL at hc
      by_cases hk : chkB chk st2 = true
      · rw [if_pos hk] at hc
        have stp := (r1 _ M2 st2 H2 x2 C.s hk).2 (Nat.le_refl _)
        cases hc
        exact .inl ⟨stp, comp_end s1 C h1⟩
      · rw [if_neg hk] at hc; cases hc
theorem px_lc (v : Bool) {elt tg iter : Expr} {ifs : List Expr} {scope : Scope} {own : List (Str × Nat)} {sl : List Nat} {di : DenI} {g : DenG} {t : DenT} {e : Den} (hc : X.calm = true) (hN : X.N.Nodup) (hi : PIX X T W tg iter di) (ok : BlkOk X.N X.env.scope scope own) (hsl : ∀ j ∈ sl, j ∈ own.map (·.2))
    (hg : BlkAll X scope fun Y => PGX Y T sl tg g) (ht : BlkAll X scope fun Y => PTs Y ifs (tT T WN t)) (he : BlkAll X scope fun Y => PX Y T WN elt e) (hs : ∀ x, foldedSetIterable iter X.env x = pure x := by intro _; rfl) :
    PX X T W (.ListComp elt [⟨tg, iter, ifs, 0⟩] scope pos) (dLcB v di (own.map (·.2)) g (stepE t e)) :=
  pe_imp (pe_lc hc hN hi ok hg ht he hs) fun σ H Q h => tLc_of hsl h
theorem psx_setLc (v : Bool) (i : Nat) {y : Str} {py spos : Pos} {elt tg iter : Expr} {ifs : List Expr} {scope : Scope} {own : List (Str × Nat)} {sl : List Nat} {di : DenI} {g : DenG} {t : DenT} {e : Den} (hc : X.calm = true) (hN : X.N.Nodup) (hi : PIX X T W tg iter di) (ok : BlkOk X.N X.env.scope scope own) (hsl : ∀ j ∈ sl, j ∈ own.map (·.2))
    (hg : BlkAll X scope fun Y => PGX Y T sl tg g) (ht : BlkAll X scope fun Y => PTs Y ifs (tT T WN t)) (he : BlkAll X scope fun Y => PX Y T WN elt e) (hy : X.N[i]? = some y := by rfl) (hyl : X.env.scope.names.lookup y = some .local := by rfl)
    (hsw : swapsWith (.ListComp elt [⟨tg, iter, ifs, 0⟩] scope pos) (some (.Name y py)) spos.line X.env = pure true := by exact sw_true rfl rfl rfl (by decide +kernel)) (hs : ∀ x, foldedSetIterable iter X.env x = pure x := by intro _; rfl) :
    PSX X T W (.Assign [.Name y py] (.ListComp elt [⟨tg, iter, ifs, 0⟩] scope pos) spos) (dAsg i (dLcB v di (own.map (·.2)) g (stepE t e))) :=
  ps_imp (ps_setLc hc hN hy hyl hsw hi ok hg ht he hs) fun D σ H h => by
    obtain ⟨M, ρ, st, s, eo, h⟩ := h
    exact tLc_of hsl ⟨M, ρ, st, s, eo, (PostS.bind (R := RV T) h eo).mono fun v H1 ⟨M1, x, st1, s1, x1, r1, h1⟩ => h1 M1 _ H1 s1 .refl ((eo.ex x1).set i r1)⟩
/-- two clauses -/
theorem tLc2_of {v : Bool} {di di1 : DenI} {vs sl vs1 sl1 : List Nat} {g g1 : DenG} {t t1 : DenT} {e : Den} (hs : ∀ j ∈ sl, j ∈ vs) (hs1 : ∀ j ∈ sl1, j ∈ vs1) {σ : L2.St} {H : Hp} {Q : VK} (h : tI T W (dLcB v di vs g (stepC t di1 vs1 g1 (stepE t1 e))) σ H Q) :
    tLc2 (tIt T W di) (tG T sl g) (tT T WN t) (tIt T WN di1) (tG T sl1 g1) (tT T WN t1) (tI T WN e) vs vs1 σ H Q := by
  obtain ⟨M, ρ, st, s, eo, h⟩ := h
  refine ⟨M, ρ, st, s, eo, (Post.bind (R := IterOk T) h).mono fun J H1 ⟨M1, p, st1, s1, x1, r1, h1⟩ dd hD => ?_⟩
  obtain ⟨src, chk⟩ := p
  dsimp only at h1
  cases q : compL chk vs g (stepC t di1 vs1 g1 (stepE t1 e)) ρ src [] st1 with
  | none => rw [q] at h1; exact h1.elim
  | some r =>
    obtain ⟨accF, stF⟩ := r
    rw [q] at h1
    have e1 := eo.ex x1
    have m1 : Mo M1 H1 (M1.build dd) (upd H1 dd (.lst [])) := mo_build hD
    refine ⟨fun i m H' => m = src.length - i ∧ i ≤ src.length ∧ ∃ M' acc st' ws, Mo M1 H1 M' H' ∧ CompIn T M1 H1 dd M' acc st' H' ws ∧ compL chk vs g (stepC t di1 vs1 g1 (stepE t1 e)) ρ (src.drop i) acc st' = some (accF, stF),
      ⟨_, rfl, Nat.zero_le _, _, [], st1, [], m1, .start s1 hD, q⟩, ?_⟩
    rintro i m H2 ⟨rfl, hi2, M2, acc, st2, ws, x2, C, hc⟩
    by_cases hlt : i < src.length
    · rw [List.drop_eq_getElem_cons hlt] at hc
      unfold compL at hc
      by_cases hk : chkB chk st2 = true
      · rw [if_pos hk] at hc
        obtain ⟨k1, _⟩ := r1 i M2 st2 H2 x2 C.s hk
        obtain ⟨go, yld⟩ := k1 src[i] (List.getElem?_eq_getElem hlt)
        refine .inr ⟨go, fun H' => ∃ M' acc st' ws, Mo M1 H1 M' H' ∧ CompIn T M1 H1 dd M' acc st' H' ws ∧ compL chk vs g (stepC t di1 vs1 g1 (stepE t1 e)) ρ (src.drop (i + 1)) acc st' = some (accF, stF), fun H' z => ⟨src.length - (i + 1), by omega, rfl, hlt, z⟩, fun x H3 y => ?_⟩
        obtain ⟨s3, x3, r3⟩ := yld x H3 y
        have e3 : EOk T M2 H3 (wipeE ρ vs) (L2.wipe σ vs) := ((e1.mo x2).ex x3).wipe vs
        refine ⟨M2, src[i], wipeE ρ vs, st2, s3, r3, e3, ?_⟩
        cases qg : g src[i] (wipeE ρ vs) st2 with
        | none => rw [qg] at hc; cases hc
        | some pp =>
          obtain ⟨ρ4, st4⟩ := pp
          rw [qg] at hc
          dsimp only at hc
          cases qs : stepC t di1 vs1 g1 (stepE t1 e) ρ4 acc st4 with
          | none => rw [qs] at hc; cases hc
          | some rr =>
            rw [qs] at hc
            intro M4 σ4 H4 s4 x4 e4 k4
            refine ⟨wipe_same (by rw [k4.1, wipe_length]) k4.2 hs, ?_⟩
            have xx := x3.trans x4
            have C4 := C.go s4 xx
            have x40 := x2.trans xx.mo
            refine ⟨M4, ρ4, st4, s4, e4, ?_⟩
            unfold stepC at qs
            cases qt : t ρ4 st4 with
            | exc c fs st5 => rw [qt] at qs; cases qs
            | bad => rw [qt] at qs; cases qs
            | ok b st5 =>
              rw [qt] at qs
              intro M5 b' H5 s5 x5 rb
              obtain rfl : b = b' := rb
              have C5 := C4.go s5 x5
              cases b with
              | false =>
                cases qs
                exact ⟨M5, acc, st5, ws, x40.trans x5.mo, C5, hc⟩
              | true =>
                dsimp only at qs
                refine ⟨M5, ρ4, st5, s5, e4.ex x5, ?_⟩
                cases qd : di1 ρ4 st5 with
                | exc c fs st6 => rw [qd] at qs; cases qs
                | bad => rw [qd] at qs; cases qs
                | ok p6 st6 =>
                  obtain ⟨src1, chk1⟩ := p6
                  rw [qd] at qs
                  dsimp only at qs
                  intro M6 J1 H6 s6 x6 r6
                  have C6 := C5.go s6 x6
                  have e6 := (e4.ex x5).ex x6
                  have x60 := (x40.trans x5.mo).trans x6.mo
                  refine ⟨fun j m H' => m = src1.length - j ∧ j ≤ src1.length ∧ ∃ M' acc' st' vs', Mo M6 H6 M' H' ∧ CompIn T M1 H1 dd M' acc' st' H' vs' ∧ compL chk1 vs1 g1 (stepE t1 e) ρ4 (src1.drop j) acc' st' = some rr,
                    ⟨_, rfl, Nat.zero_le _, M6, acc, st6, ws, .refl, C6, qs⟩, ?_⟩
                  rintro j m H7 ⟨rfl, hj, M7, acc7, st7, ws7, x07, C7, hc7⟩
                  have e7 := e6.mo x07
                  by_cases hlj : j < src1.length
                  · rw [List.drop_eq_getElem_cons hlj] at hc7
                    unfold compL at hc7
                    by_cases hk7 : chkB chk1 st7 = true
                    · rw [if_pos hk7] at hc7
                      obtain ⟨k7, _⟩ := r6 j M7 st7 H7 x07 C7.s hk7
                      obtain ⟨go7, yld7⟩ := k7 src1[j] (List.getElem?_eq_getElem hlj)
                      refine .inr ⟨go7, fun H' => ∃ M' acc' st' vs', Mo M6 H6 M' H' ∧ CompIn T M1 H1 dd M' acc' st' H' vs' ∧ compL chk1 vs1 g1 (stepE t1 e) ρ4 (src1.drop (j + 1)) acc' st' = some rr, fun H' z => ⟨src1.length - (j + 1), by omega, rfl, hlj, z⟩, fun x8 H8 y8 => ?_⟩
                      obtain ⟨s8, x8', r8⟩ := yld7 x8 H8 y8
                      refine ⟨M7, src1[j], wipeE ρ4 vs1, st7, s8, r8, (e7.ex x8').wipe vs1, ?_⟩
                      cases qg7 : g1 src1[j] (wipeE ρ4 vs1) st7 with
                      | none => rw [qg7] at hc7; cases hc7
                      | some pp7 =>
                        obtain ⟨ρ9, st9⟩ := pp7
                        rw [qg7] at hc7
                        dsimp only at hc7
                        cases qs7 : stepE t1 e ρ9 acc7 st9 with
                        | none => rw [qs7] at hc7; cases hc7
                        | some rr7 =>
                          rw [qs7] at hc7
                          intro M9 σ9 H9 s9 x9 e9 k9
                          refine ⟨wipe_same (by rw [k9.1, wipe_length]) k9.2 hs1, ?_⟩
                          have xx9 := x8'.trans x9
                          exact step_elt (C7.go s9 xx9) e9 qs7 fun H' M' vs' mo z => ⟨M', rr7.1, rr7.2, vs', (x07.trans xx9.mo).trans mo, z, hc7⟩
                    · rw [if_neg hk7] at hc7; cases hc7
                  · obtain rfl : j = src1.length := by omega
                    rw [List.drop_eq_nil_of_le (Nat.le_refl _)] at hc7
                    unfold compL at hc7
                    by_cases hk7 : chkB chk1 st7 = true
                    · rw [if_pos hk7] at hc7
                      have stp7 := (r6 _ M7 st7 H7 x07 C7.s hk7).2 (Nat.le_refl _)
                      cases hc7
                      exact .inl ⟨stp7, M7, acc7, st7, ws7, x60.trans x07, C7, hc⟩
                    · rw [if_neg hk7] at hc7; cases hc7
      · rw [if_neg hk] at hc; cases hc
    · obtain rfl : i = src.length := by omega
      rw [List.drop_eq_nil_of_le (Nat.le_refl _)] at hc
      unfold compL at hc
      by_cases hk : chkB chk st2 = true
      · rw [if_pos hk] at hc
        have stp := (r1 _ M2 st2 H2 x2 C.s hk).2 (Nat.le_refl _)
        cases hc
        exact .inl ⟨stp, comp_end s1 C h1⟩
      · rw [if_neg hk] at hc; cases hc
theorem px_lc2 (v : Bool) {elt tg iter tg1 iter1 : Expr} {ifs ifs1 : List Expr} {scope : Scope} {own : List (Str × Nat)} {vs1 sl sl1 : List Nat} {di di1 : DenI} {g g1 : DenG} {t t1 : DenT} {e : Den} (hc : X.calm = true) (hN : X.N.Nodup) (hi : PIX X T W tg iter di) (ok : BlkOk X.N X.env.scope scope own)
    (hv : ∀ i ∈ vs1, i ∈ own.map (·.2)) (hsl : ∀ j ∈ sl, j ∈ own.map (·.2)) (hsl1 : ∀ j ∈ sl1, j ∈ vs1)
    (hg : BlkAll X scope fun Y => PGX Y T sl tg g) (ht : BlkAll X scope fun Y => PTs Y ifs (tT T WN t)) (hi1 : BlkAll X scope fun Y => PIX Y T WN tg1 iter1 di1) (hg1 : BlkAll X scope fun Y => PGX Y T sl1 tg1 g1) (ht1 : BlkAll X scope fun Y => PTs Y ifs1 (tT T WN t1)) (he : BlkAll X scope fun Y => PX Y T WN elt e)
    (hs : ∀ x, foldedSetIterable iter X.env x = pure x := by intro _; rfl) (hs1 : ∀ env x, foldedSetIterable iter1 env x = pure x := by intro _ _; rfl) :
    PX X T W (.ListComp elt [⟨tg, iter, ifs, 0⟩, ⟨tg1, iter1, ifs1, 0⟩] scope pos) (dLcB v di (own.map (·.2)) g (stepC t di1 vs1 g1 (stepE t1 e))) :=
  pe_imp (pe_lc2 hc hN hi ok hv hg ht hi1 hg1 ht1 he hs hs1) fun σ H Q h => tLc2_of hsl hsl1 h
end
end FV

set_option Elab.async false
set_option linter.all false
set_option maxRecDepth 100000
set_option maxHeartbeats 4000000
namespace FV
open PySem PySem.Spec PyProof.Rows L2

/-! ### what a def promises -/
def PostF (T : Tb) (M : Mu) (H : Hp) (r : DRes D) (Q : VK) (E : XK) : Prop := match r with
  | .ok d st => ∀ M' v H', SOk T M' H' st → Ex M H M' H' → RV T M' H' d v → Q v H'
  | .exc c fs st => ∀ M' H' C dd xs, SOk T M' H' st → Ex M H M' H' → T.CT[c]? = some C → Fr M' dd → H' dd = some (.xd xs) → RX T M' H' fs xs → E (.ref C) (some dd) H'
  | .bad => False
def spR (T : Tb) (G : FnD) : Sp := fun vs H Q E => ∃ M ds st, SOk T M H st ∧ RVs T M H ds vs ∧ PostF T M H (G ds st) Q E
/-- a def's body by its slots; n parameters, N names -/
def bodyF (n N : Nat) (b : DenS) : FnD := fun ds st => if ds.length = n then (match b (ds.map some ++ List.replicate (N - ds.length) none) st with
  | .nx _ st' => .ok .non st'
  | .rt d st' => .ok d st'
  | .exc c fs _ st' => .exc c fs st'
  | _ => .bad) else .bad
def fzF (lo : Nat) (st : DSto) (fs : List (Nat × D)) : Option (List (Nat × D)) := rsf lo (fzK lo st) fs
/-- a result behind the call's mark: what was made there is told by value or gone -/
def popR (st : DSto) : DRes D → DRes D
  | .ok d st' => match fzD st.length st' d, popS st st' with
    | some e, some st2 => .ok e st2
    | _, _ => .bad
  | .exc c fs st' => match fzF st.length st' fs, popS st st' with
    | some e, some st2 => .exc c e st2
    | _, _ => .bad
  | .bad => .bad
/-- .. whose own objects end with the call -/
def bodyP (n N : Nat) (b : DenS) : FnD := fun ds st => popR st (bodyF n N b ds st)
/-- .. whose last parameter takes what is left over -/
def starF (n : Nat) (G : FnD) : FnD := fun ds st => if n ≤ ds.length ∧ ds.length - n ≤ sizeLine then G (ds.take n ++ [.tup (ds.drop n)]) st else .bad
/-- what is wanted of a cut result is wanted of the whole one -/
theorem popR_post {T : Tb} {M : Mu} {H : Hp} {st : DSto} {r : DRes D} {Q : VK} {E : XK} (s0 : SOk T M H st) (h : PostF T M H (popR st r) Q E) : PostF T M H r Q E := by
  cases r with
  | ok d st' =>
    intro M' v H' s x rv
    have c : Cutd st.length M' M := x.cutd s0.len
    unfold popR at h
    cases q1 : fzD st.length st' d with
    | none => simp only [q1] at h; exact h.elim
    | some e =>
      cases q2 : popS st st' with
      | none => simp only [q1, q2] at h; exact h.elim
      | some st2 =>
        simp only [q1, q2] at h
        obtain ⟨p1, p2⟩ := pop_sok s0 s x q2
        exact h M v H' p1 p2 (fzD_ok s c q1 rv)
  | exc k fs st' =>
    intro M' H' C dd xs s x hC hf hd rx
    have c : Cutd st.length M' M := x.cutd s0.len
    unfold popR at h
    cases q1 : fzF st.length st' fs with
    | none => simp only [q1] at h; exact h.elim
    | some e =>
      cases q2 : popS st st' with
      | none => simp only [q1, q2] at h; exact h.elim
      | some st2 =>
        simp only [q1, q2] at h
        obtain ⟨p1, p2⟩ := pop_sok s0 s x q2
        exact h M H' C dd xs p1 p2 hC (c.fr hf) hd (rsx_ok c (fzK_ok s c) q1 rx)
  | bad => exact h
abbrev FnX (P : Program) (w : World) (T : Tb) (mg : Str → Option Value) (base : Heap) (k : Nat) (f : Addr) (G : FnD) : Prop := FnR P w T.K mg base (L2.CX P w) k f (spR T G)
section
variable {P : Program} {w : World} {T : Tb} {mg : Str → Option Value} {base : Heap} {k : Nat} {f : Addr} {fd : FuncData} {x qual : Str} {st : Stmt} {N ps : List Str} {b : DenS}
theorem start_ok {M : Mu} {H : Hp} {ds : List D} {vs : List V} (N : List Str) (r : RVs T M H ds vs) : EOk T M H (ds.map some ++ List.replicate (N.length - ds.length) none) (L2.start N vs) := by
  have hl := r.len
  refine ⟨by simp [L2.start, hl], fun i d h => ?_⟩
  by_cases hi : i < ds.length
  · rw [List.getElem?_append_left (by simpa using hi), List.getElem?_map] at h
    cases q : ds[i]? with
    | none => rw [q] at h; cases h
    | some d' =>
      rw [q] at h
      cases h
      obtain ⟨v, e, rv⟩ := r.get q
      refine ⟨v, ?_, rv⟩
      unfold L2.start
      rw [List.getElem?_append_left (by simp; omega), List.getElem?_map, e]; rfl
  · rw [List.getElem?_append_right (by simp; omega)] at h
    rw [List.getElem?_replicate] at h
    split at h <;> cases h
/-- the wish of a def's body about exceptions -/
abbrev WF (E : XK) : WX := fun cls d _ H => E cls d H
/-- G runs the body b over the slots N -/
def IsBody (n N : Nat) (b : DenS) (G : FnD) : Prop := ∀ (T : Tb) (M : Mu) (H : Hp) (ds : List D) (st : DSto) (Q : VK) (E : XK), SOk T M H st → PostF T M H (G ds st) Q E → PostF T M H (bodyF n N b ds st) Q E
theorem isB {n N : Nat} {b : DenS} : IsBody n N b (bodyF n N b) := fun _ _ _ _ _ _ _ _ h => h
theorem isP {n N : Nat} {b : DenS} : IsBody n N b (bodyP n N b) := fun _ _ _ _ _ _ _ s h => popR_post s h
theorem body_len {n N : Nat} {E : XK} {Q : VK} {M : Mu} {H : Hp} {ds : List D} {st : DSto} (h : PostF T M H (bodyF n N b ds st) Q E) : ds.length = n := by
  unfold bodyF at h
  by_cases hl : ds.length = n
  · exact hl
  · rw [if_neg hl] at h; exact h.elim
theorem body_post {n : Nat} {E : XK} {Q : VK} {M : Mu} {H : Hp} {ds : List D} {st : DSto} (h : PostF T M H (bodyF n N.length b ds st) Q E) :
    PostS T (WF E) { nx := fun _ H' => Q .non H', rt := Q } M H (b (ds.map some ++ List.replicate (N.length - ds.length) none) st) := by
  have hl := body_len h
  unfold bodyF at h
  rw [if_pos hl] at h
  cases q : b (ds.map some ++ List.replicate (N.length - ds.length) none) st with
  | nx ρ st' => rw [q] at h; exact fun M' σ' H' s x e => h M' .non H' s x (by simp [RV])
  | rt d st' => rw [q] at h; exact fun M' v H' s x e => h M' v H' s x e
  | bk ρ st' => rw [q] at h; exact h.elim
  | ct ρ st' => rw [q] at h; exact h.elim
  | exc c fs ρ st' => rw [q] at h; exact fun M' σ' H' C dd xs s x e => h M' H' C dd xs s x
  | bad => rw [q] at h; exact h.elim
abbrev BodyX (P : Program) (w : World) (T : Tb) (mg : Str → Option Value) (base : Heap) (k : Nat) (N : List Str) (qual : Str) (st : Stmt) (f : Addr) (b : DenS) : Prop :=
  ∀ (cdv : Value) (A : Around) (outer : List Env) (s : Shared) (H : Hp) (E : XK), Room k (A.deeper (envOfC qual (defScope st) s.heap.objs.size f cdv)) →
    PSsX (cxOf (L2.CX P w) P w T.K mg base N qual (defScope st) f cdv A outer s H E) T (WF E) (defBody st) b
theorem fnok_body {G : FnD} (F : Fun T.K x qual st f fd) (S : FnScope N ps (defScope st)) (hG : IsBody ps.length N.length b G) (h : BodyX P w T mg base k N qual st f b) : FnOk P w T.K mg base (L2.CX P w) (k + 1) f fd ps (spR T G) := by
  refine F.okX S (fun vs H Q E hsp => ?_) (fun cdv A outer s H vs Q E hr hsp => ?_)
  · obtain ⟨M, ds, st', so, r, hp⟩ := hsp
    rw [r.len]
    exact body_len (hG _ _ _ _ _ _ _ so hp)
  · obtain ⟨M, ds, st', so, r, hp⟩ := hsp
    exact ⟨_, h cdv A outer s H E hr, M, _, st', so, start_ok N r, body_post (hG _ _ _ _ _ _ _ so hp)⟩
theorem fnx_body {G : FnD} (F : Fun T.K x qual st f fd) (S : FnScope N ps (defScope st)) (hb : Binds T.K fd ps []) (hG : IsBody ps.length N.length b G) (h : BodyX P w T mg base k N qual st f b) : FnX P w T mg base (k + 1) f G := by
  refine ((fnok_body F S hG h).raw hb .nil).imp fun vs H Q E hsp => ?_
  rw [List.append_nil]
  exact hsp
theorem fnx_star {G : FnD} {pv : Str} (F : Fun T.K x qual st f fd) (S : FnScope N (ps ++ [pv]) (defScope st))
    (hb : ∀ (kV doc pm : Value) (an : Option Addr) (cdv ct : Value) (us rest : List Value), us.length = ps.length →
      bindArgs (PySem.W.fnOf x qual (defArgs st) (defBody st) (defScope st) .none kV doc pm an cdv ct) ⟨us ++ rest, []⟩ = (newTuple rest >>= fun t => pure (ps.zip us ++ [(pv, t)])))
    (hG : IsBody (ps.length + 1) N.length b G) (h : BodyX P w T mg base k N qual st f b) : FnX P w T mg base (k + 1) f (starF ps.length G) := by
  obtain ⟨oc, od, kV, doc, pm, an, cdv, ct, osl, rfl, lk, hcd⟩ := F.ex
  refine FnR.imp (StX.fn_star (sp := spR T G) lk hcd S StX.cxUp (hb kV doc pm an cdv ct) fun A outer s H vs Q E hr hsp => ?_) fun vs H Q E hsp => ?_
  · obtain ⟨M, ds, st', so, r, hp⟩ := hsp
    exact ⟨_, h cdv A outer s H E hr, M, _, st', so, start_ok N r, body_post (hG _ _ _ _ _ _ _ so hp)⟩
  · obtain ⟨M, ds, st', so, r, hp⟩ := hsp
    unfold starF at hp
    by_cases hl : ps.length ≤ ds.length ∧ ds.length - ps.length ≤ sizeLine
    · rw [if_pos hl] at hp
      have hlen := r.len
      refine ⟨vs.take ps.length, vs.drop ps.length, (List.take_append_drop _ _).symm, by rw [List.length_take]; omega, by rw [List.length_drop]; omega, fun p hp' => ?_⟩
      obtain ⟨a1, a2, a3⟩ := upd_tup_ok so (r.drop ps.length) hp'
      refine ⟨M, ds.take ps.length ++ [.tup (ds.drop ps.length)], st', a1, ((r.take ps.length).ex a2).app (RVs.one a3), ?_⟩
      revert hp
      generalize G (ds.take ps.length ++ [.tup (ds.drop ps.length)]) st' = R
      intro hp
      cases R with
      | ok d st2 => exact fun M' v H' s x rr => hp M' v H' s (a2.trans x) rr
      | exc c fs st2 => exact fun M' H' C dd xs s x => hp M' H' C dd xs s (a2.trans x)
      | bad => exact hp
    · rw [if_neg hl] at hp; exact hp.elim
/-- a weaker promise: equal where it is not bad -/
theorem FnX.mono {j : Nat} {G : FnD} (F : FnX P w T mg base j f G) (h : j ≤ k) : FnX P w T mg base k f G := FnR.mono F h
end

/-! ### calls -/
/-- how an argument list is met by a call -/
def CallsBy (X : Cx) (pos : Pos) (es : List Expr) (t : TA) : Prop :=
  ∀ (pins : List (Addr × Obj)) (s : Shared) (σ : L2.St) (H : Hp) (f : Value) (first : List Value) (Q : Value → Shared → Prop) (R : List V → Hp → Prop), PySem.W.keepIn X.K f = true → Inv X pins σ H s → t σ H R →
    (∀ us vs H1 s1, Inv X pins σ H1 s1 → Vals vs us → R vs H1 → wpAny (model X.prog X.w) X.A (call f (first ++ us)) Q X.xe s1) →
    wpAny (model X.prog X.w) X.A (callWith pos f first (backTo pos (starEach es X.env)) []) Q X.xe s
section
variable {X : Cx} {T : Tb} {W : WX} {pos p apos : Pos} {e o : Expr} {es : List Expr} {d : Den} {t : DenA} {k : Nat} {f C : Addr} {G : FnD}
theorem cb_nil : CallsBy X pos [] (tA T W dNil) := fun pins s σ H f first Q R hk I ⟨M, ρ, st, so, e, h⟩ k =>
  PySem.W.callWith_K0 I.kIn hk (k [] [] H s I .nil (h M [] H so .refl (by simp [RVs])))
theorem cb_plain (ha : PAX X T W (e :: es) t) (he : starEach (e :: es) X.env = (false, eval e X.env) :: starEach es X.env := by rfl) (hpl : (backTo pos (starEach es X.env)).any (·.1) = false := by rfl) : CallsBy X pos (e :: es) (tA T W t) :=
  fun pins s σ H f first Q R hk I h k => PySem.W.callWith_K (h₀ := X.base) I.ok.mod.kin hk (thn (ha.run pos pins s σ H _ I h) fun us s1 ⟨vs, H1, I1, r, q⟩ => ⟨I1.kIn, k us vs H1 s1 I1 r q⟩) he hpl
theorem cb_star2 (ha : PAX X T W (e :: es) t) (he : starEach (e :: es) X.env = (false, eval e X.env) :: starEach es X.env := by rfl) (hst : (backTo pos (starEach es X.env)).any (·.1) = true := by rfl) : CallsBy X pos (e :: es) (tA T W t) :=
  fun pins s σ H f first Q R hk I h k => PySem.W.callWith_S2 (h₀ := X.base) I.ok.mod.kin hk (thn (ha.run pos pins s σ H _ I h) fun us s1 ⟨vs, H1, I1, r, q⟩ => ⟨I1.kIn, k us vs H1 s1 I1 r q⟩) he hst
theorem cb_star1 (hF : Fits X T W) (ha : PX X T W e d) (hst : starEach [.Starred e p] X.env = [(true, eval e X.env)] := by rfl) : CallsBy X pos [.Starred e p] (tA T W (dStar d dNil)) :=
  fun pins s σ H f first Q R hk I ⟨M, ρ, st, so, eo, h⟩ k => by
    refine PySem.W.callWith_S (h₀ := X.base) I.ok.mod.kin hk (thn (ha.run pins s σ H (fun y H1 => ∃ a vs, y = V.ref a ∧ (SqT X.K H1 a vs ∨ SqL X.K H1 a vs) ∧ R vs H1) I ⟨M, ρ, st, so, eo, (Post.bind (R := RV T) h).mono fun v H1 ⟨M1, x, st1, s1, x1, r1, h1⟩ => ?_⟩) fun v s1 ⟨y, H1, I1, ry, a, vs, ey, hxs, q⟩ => ?_) hst
    · cases q : itemsD x st1 with
      | none => rw [q] at h1; exact h1.elim
      | some ys =>
        rw [q] at h1
        obtain ⟨a, vs, rfl, rr, sq⟩ := items_of hF.K s1 r1 q
        exact ⟨a, vs, rfl, sq.symm, h1 M1 vs H1 s1 .refl (by rw [List.append_nil]; exact rr)⟩
    · subst ey
      obtain rfl : v = Value.ref a := ry
      exact StX.star_any I1 hxs fun us s2 I2 rv => ⟨I2.kIn, k us vs H1 s2 I2 rv q⟩
theorem evalArgs_many {M : Model} {A : Around} {E : Value → Shared → Prop} {s : Shared} {f : Value} {x y : Bool × Sem Value} {rest : List (Bool × Sem Value)} {Q : Args → Shared → Prop}
    (h : wpAny M A (spliced (x :: y :: rest)) (fun vs s' => Q ⟨vs, []⟩ s') E s) : wpAny M A (evalArgs f true (x :: y :: rest) []) Q E s := by
  unfold evalArgs
  obtain ⟨b, x⟩ := x
  cases b
  all_goals
    show wpAny M A (spliced _ >>= _) Q E s
    refine wpAny_bind (wpAny_mono h (fun vs s' h' => ?_) fun _ _ x => x)
    refine wpAny_holding ?_
    exact wpAny_bind (wpAny_pure (wpAny_bind (wpAny_pure (wpAny_pure h'))))
theorem cb_stars {e2 : Expr} {es2 : List Expr} (ha : PAX X T W (.Starred e p :: e2 :: es2) t) (h2 : ∃ y r, backTo pos (starEach (.Starred e p :: e2 :: es2) X.env) = (true, do let v ← eval e X.env; standAt pos; pure v) :: y :: r := by exact ⟨_, _, rfl⟩) :
    CallsBy X pos (.Starred e p :: e2 :: es2) (tA T W t) := fun pins s σ H f first Q R hk I h k => by
  obtain ⟨y, r, e⟩ := h2
  have hs := ha.run pos pins s σ H _ I h
  rw [e] at hs ⊢
  exact PySem.W.ks_call rfl (PySem.W.keeps_K hk) (evalArgs_many (thn hs fun us s1 ⟨vs, H1, I1, r, q⟩ => ⟨I1.kIn, k us vs H1 s1 I1 r q⟩))
/-- from the promise of a def to what is wanted in a body -/
theorem spR_of {σ : L2.St} {M : Mu} {H : Hp} {ds : List D} {st : DSto} {vs : List V} {Q : VK} (s : SOk T M H st) (r : RVs T M H ds vs) (h : Post T (RV T) W σ M H (G ds st) Q) : spR T G vs H Q (fun cls d H => W cls d σ H) := by
  refine ⟨M, ds, st, s, r, ?_⟩
  revert h
  generalize G ds st = R
  intro h
  cases R with
  | ok d st' => exact h
  | exc c fs st' => exact h
  | bad => exact h
theorem run_fnX {pins : List (Addr × Obj)} {σ : L2.St} {H : Hp} {s : Shared} {Q : VK} {us : List Value} {vs : List V} (F : FnR X.prog X.w X.K X.mg X.base (L2.CX X.prog X.w) k f (spR T G)) (hr : Room k X.A) (tk : Takes X W)
    (I : Inv X pins σ H s) (r : Vals vs us) (h : spR T G vs H Q (fun cls d H => W cls d σ H)) : wpAny (model X.prog X.w) X.A (call (.ref f) us) (EP X pins σ Q) X.xe s := by
  refine wpAny_call (codeAny_mono (F X.A X.stack s H us vs Q _ hr I.env0 r h) fun r s' hq => ?_)
  cases r with
  | error e => exact tk e s' (XE.of_call I (fun _ _ _ h => h) hq)
  | ok fl =>
    cases fl with
    | ret u => exact I.after hq
    | next => exact False.elim hq
    | brk => exact False.elim hq
    | cont => exact False.elim hq
def dCall (G : FnD) (t : DenA) : Den := fun ρ st => (t ρ st).bind G
theorem px_call {x : Str} (hF : Fits X T W) (F : FnR X.prog X.w X.K X.mg X.base (L2.CX X.prog X.w) k f (spR T G)) (hr : Room k X.A) (hm : X.mg x = some (.ref f)) (hk : PySem.W.keepIn X.K (.ref f) = true) (ha : CallsBy X pos es (tA T W t)) (hg : Gl X x := by rfl)
    (hdb : (x == ("__debug__" : Str)) = false := by decide) : PX X T W (.Call (.Name x p) es [] pos) (dCall G t) := by
  refine ⟨fun pins s σ H Q I ⟨M, ρ, st, so, eo, h⟩ => ?_⟩
  refine wpAny_Call_Name_kw (ld_glob I hg hm ?_ hdb)
  refine ha pins s σ H (.ref f) [] _ _ hk I ⟨M, ρ, st, so, eo, Post.bind (R := RVs T) h⟩ fun us vs H1 s1 I1 rv ⟨M1, ds, st1, s1', x1, r1, h1⟩ => ?_
  exact run_fnX F hr hF.tk I1 rv (spR_of s1' r1 h1)
/-- C(..): a new instance, then __init__ -/
def mkObj (c : Nat) (G : FnD) (ds : List D) (st : DSto) : DRes D := (G (.ref st.length :: ds) (st ++ [.ins c []])).bind fun v st' => match v with
  | .non => .ok (.ref st.length) st'
  | _ => .bad
def dMake (c : Nat) (G : FnD) (t : DenA) : Den := fun ρ st => (t ρ st).bind fun ds st => mkObj c G ds st
/-- .. told by value: its class has no method that changes it behind __init__ -/
def mkObjV (c : Nat) (G : FnD) (ds : List D) (st : DSto) : DRes D := popR st (mkObj c G ds st)
def dMakeV (c : Nat) (G : FnD) (t : DenA) : Den := fun ρ st => (t ρ st).bind fun ds st => mkObjV c G ds st
theorem Post.popR {σ : L2.St} {M : Mu} {H : Hp} {st : DSto} {r : DRes D} {Q : VK} (s0 : SOk T M H st) (h : Post T (RV T) W σ M H (FV.popR st r) Q) : Post T (RV T) W σ M H r Q := by
  have h' : PostF T M H (FV.popR st r) Q (fun cls d H => W cls d σ H) := by
    revert h
    generalize FV.popR st r = R
    intro h
    cases R with
    | ok d st' => exact h
    | exc c fs st' => exact h
    | bad => exact h
  have h2 := popR_post s0 h'
  cases r with
  | ok d st' => exact h2
  | exc c fs st' => exact h2
  | bad => exact h2
theorem made_ok {c : Nat} {M : Mu} {H : Hp} {st : DSto} {x dx : Addr} (s : SOk T M H st) (hC : T.CT[c]? = some C) (cl : Cls T.K C) (nx : H x = none) (nd : H dx = none) (ne : dx ≠ x) :
    SOk T (M.add x) (upd (upd H dx (.own x)) x (.ins C dx [])) (st ++ [.ins c []]) ∧ Ex M H (M.add x) (upd (upd H dx (.own x)) x (.ins C dx [])) := by
  have s1 : SOk T M (upd H dx (.own x)) st := sok_new s nd
  have n1 : (upd H dx (.own x)) x = none := by rw [upd_ne (Ne.symm ne)]; exact nx
  exact ⟨sok_alloc s1 n1 ⟨C, dx, [], hC, cl, upd_same, by simp [RF]⟩, (ex_new nd).trans (ex_alloc s1 n1)⟩
theorem run_makeX {c : Nat} {pins : List (Addr × Obj)} {σ : L2.St} {H : Hp} {s : Shared} {Q : VK} {us : List Value} {vs : List V} {M : Mu} {ds : List D} {st : DSto} (hF : Fits X T W) (MK : Mk X.K C f) (hC : T.CT[c]? = some C) (cl : Cls T.K C)
    (F : FnR X.prog X.w X.K X.mg X.base (L2.CX X.prog X.w) k f (spR T G)) (hr : Room (k + 1) X.A) (I : Inv X pins σ H s) (r : Vals vs us) (so : SOk T M H st) (rv : RVs T M H ds vs) (h : Post T (RV T) W σ M H (mkObj c G ds st) Q) :
    wpAny (model X.prog X.w) X.A (call (.ref C) us) (EP X pins σ Q) X.xe s := by
  have nx := I.hok.fresh (Nat.le_succ s.heap.objs.size)
  have nd := I.hok.fresh (Nat.le_refl s.heap.objs.size)
  have ne : s.heap.objs.size ≠ s.heap.objs.size + 1 := Nat.ne_of_lt (Nat.lt_succ_self _)
  obtain ⟨so2, x2⟩ := made_ok (c := c) so hC cl nx nd ne
  have I2 := Inv.made (C := C) I
  have r2 : Vals (V.ref (s.heap.objs.size + 1) :: vs) (Value.ref (s.heap.objs.size + 1) :: us) := .cons rfl r
  have rr : RVs T (M.add (s.heap.objs.size + 1)) (upd (upd H s.heap.objs.size (.own (s.heap.objs.size + 1))) (s.heap.objs.size + 1) (.ins C s.heap.objs.size [])) (.ref st.length :: ds) (V.ref (s.heap.objs.size + 1) :: vs) := by
    simp only [RVs]
    exact ⟨_, _, rfl, by simp only [RV]; exact ⟨_, rfl, by rw [← so.len]; simp⟩, rv.ex x2⟩
  have hq : spR T G (V.ref (s.heap.objs.size + 1) :: vs) (upd (upd H s.heap.objs.size (.own (s.heap.objs.size + 1))) (s.heap.objs.size + 1) (.ins C s.heap.objs.size [])) (fun v H2 => v = .non ∧ Q (.ref (s.heap.objs.size + 1)) H2) (fun cls d H => W cls d σ H) := by
    refine spR_of so2 rr ?_
    have h2 := Post.bind (R := RV T) (h.ex x2)
    revert h2
    generalize G (.ref st.length :: ds) (st ++ [.ins c []]) = R
    intro h2
    refine h2.mono fun v H3 ⟨M3, a, st3, s3, x3, r3, h3⟩ => ?_
    cases a with
    | non =>
      simp only [RV] at r3
      refine ⟨r3, h3 M3 _ H3 s3 .refl ?_⟩
      simp only [RV]
      exact ⟨_, rfl, x3.get (by rw [← so.len]; simp)⟩
    | _ => exact h3.elim
  refine wpAny_call (make_map (f := f) I.kIn MK.makes MK.init (beq_iff_eq.mp MK.fn) (codeAny_mono (F _ X.stack _ _ (Value.ref (s.heap.objs.size + 1) :: us) _ _ _ (hr.make C us []) (I2.env0.make C us []) r2 hq) fun r s' hq' => ?_))
  cases r with
  | error e => exact hF.tk e s' (XE.of_call I2 (fun _ _ _ h => h) hq')
  | ok fl =>
    cases fl with
    | ret u =>
      obtain ⟨v, H', I3, rv, ev, q3⟩ := I2.after hq'
      subst ev
      exact ⟨rv, ⟨V.ref (s.heap.objs.size + 1), H', I3, rfl, q3⟩⟩
    | next => exact False.elim hq'
    | brk => exact False.elim hq'
    | cont => exact False.elim hq'
theorem px_make (c : Nat) {x : Str} (hF : Fits X T W) (MK : Mk X.K C f) (hC : T.CT[c]? = some C) (cl : Cls T.K C) (F : FnR X.prog X.w X.K X.mg X.base (L2.CX X.prog X.w) k f (spR T G)) (hr : Room (k + 1) X.A) (hm : X.mg x = some (.ref C)) (ha : CallsBy X pos es (tA T W t)) (hg : Gl X x := by rfl)
    (hdb : (x == ("__debug__" : Str)) = false := by decide) : PX X T W (.Call (.Name x p) es [] pos) (dMake c G t) := by
  refine ⟨fun pins s σ H Q I ⟨M, ρ, st, so, eo, h⟩ => ?_⟩
  refine wpAny_Call_Name_kw (ld_glob I hg hm ?_ hdb)
  refine ha pins s σ H (.ref C) [] _ _ MK.kp I ⟨M, ρ, st, so, eo, Post.bind (R := RVs T) h⟩ fun us vs H1 s1 I1 rv ⟨M1, ds, st1, s1', x1, r1, h1⟩ => ?_
  exact run_makeX hF MK hC cl F hr I1 rv s1' r1 h1
theorem px_makeV (c : Nat) {x : Str} (hF : Fits X T W) (MK : Mk X.K C f) (hC : T.CT[c]? = some C) (cl : Cls T.K C) (F : FnR X.prog X.w X.K X.mg X.base (L2.CX X.prog X.w) k f (spR T G)) (hr : Room (k + 1) X.A) (hm : X.mg x = some (.ref C)) (ha : CallsBy X pos es (tA T W t)) (hg : Gl X x := by rfl)
    (hdb : (x == ("__debug__" : Str)) = false := by decide) : PX X T W (.Call (.Name x p) es [] pos) (dMakeV c G t) := by
  refine ⟨fun pins s σ H Q I ⟨M', ρ, st, so, eo, h⟩ => ?_⟩
  refine wpAny_Call_Name_kw (ld_glob I hg hm ?_ hdb)
  refine ha pins s σ H (.ref C) [] _ _ MK.kp I ⟨M', ρ, st, so, eo, Post.bind (R := RVs T) h⟩ fun us vs H1 s1 I1 rv ⟨M1, ds, st1, s1', x1, r1, h1⟩ => ?_
  exact run_makeX hF MK hC cl F hr I1 rv s1' r1 (Post.popR s1' h1)
end
end FV

set_option Elab.async false
set_option linter.all false
set_option maxRecDepth 100000
set_option maxHeartbeats 4000000
namespace FV
open PySem PySem.Spec PyProof.Rows L2

def putN (f : Nat) (v : D) : List (Nat × D) → List (Nat × D)
  | [] => [(f, v)]
  | (g, x) :: r => if g = f then (g, v) :: r else (g, x) :: putN f v r
def getN (f : Nat) : List (Nat × D) → Option D
  | [] => none
  | (g, x) :: r => if g = f then some x else getN f r
section
variable {T : Tb} {M : Mu} {H : Hp} {C : Addr} {i : Nat} {name : Str} {d : D} {v : V}
theorem ft_inj {j : Nat} (h1 : T.FT[i]? = some name) (h2 : T.FT[j]? = some name) : i = j := nodup_ix T.nd h1 h2
theorem fs_get : ∀ {fs : List (Nat × D)} {vs : List (Str × V)}, RF T M H C fs vs → T.FT[i]? = some name → getN i fs = some d → ∃ v, vs.lookup name = some v ∧ RV T M H d v ∧ NoAttr T.K C name
  | [], _, _, _, e => by cases e
  | (j, x) :: r, _, h, hn, e => by
    simp only [RF] at h
    obtain ⟨g, y, vs, rfl, h1, h3, h2, t⟩ := h
    unfold getN at e
    by_cases hj : j = i
    · rw [if_pos hj] at e
      cases e
      have : g = name := by
        subst hj
        rw [h1] at hn; exact Option.some.inj hn
      subst this
      exact ⟨y, by simp [List.lookup], h2, h3⟩
    · rw [if_neg hj] at e
      obtain ⟨v, e1, r1⟩ := fs_get t hn e
      have ne : name ≠ g := by rintro rfl; exact hj (ft_inj h1 hn)
      exact ⟨v, by rw [List.lookup_cons, beq_eq_false_iff_ne.mpr ne]; exact e1, r1⟩
theorem fs_none : ∀ {fs : List (Nat × D)} {vs : List (Str × V)}, RF T M H C fs vs → name ∉ T.FT → vs.lookup name = none
  | [], _, h, _ => by simp only [RF] at h; subst h; rfl
  | (j, x) :: r, _, h, hn => by
    simp only [RF] at h
    obtain ⟨g, y, vs, rfl, h1, h3, h2, t⟩ := h
    have ne : name ≠ g := by rintro rfl; exact hn (List.mem_of_getElem? h1)
    rw [List.lookup_cons, beq_eq_false_iff_ne.mpr ne]
    exact fs_none t hn
theorem fs_put : ∀ {fs : List (Nat × D)} {vs : List (Str × V)}, RF T M H C fs vs → T.FT[i]? = some name → NoAttr T.K C name → RV T M H d v → RF T M H C (putN i d fs) (putF name v vs)
  | [], _, h, hn, na, r => by
    simp only [RF] at h; subst h
    simp only [putN, putF, RF]
    exact ⟨name, v, [], rfl, hn, na, r, rfl⟩
  | (j, x) :: r, _, h, hn, na, rv => by
    simp only [RF] at h
    obtain ⟨g, y, vs, rfl, h1, h3, h2, t⟩ := h
    unfold putN putF
    by_cases hj : j = i
    · have : g = name := by
        subst hj
        rw [h1] at hn; exact Option.some.inj hn
      rw [if_pos hj, if_pos this]
      simp only [RF]
      exact ⟨g, v, vs, rfl, h1, h3, rv, t⟩
    · have ne : g ≠ name := by rintro rfl; exact hj (ft_inj h1 hn)
      rw [if_neg hj, if_neg ne]
      simp only [RF]
      exact ⟨g, y, _, rfl, h1, h3, h2, fs_put t hn na rv⟩
end
section
variable {X : Cx} {T : Tb} {W : WX} {pos pos' p apos : Pos} {e o : Expr} {es : List Expr} {d : Den} {t : DenA} {k : Nat} {f C : Addr} {G : FnD}
/-- the class and the fields of an instance -/
def insD (x : D) (st : DSto) : Option (Nat × List (Nat × D)) := match x with
  | .ins c fs => some (c, fs)
  | .ref n => match st[n]? with
    | some (.ins c fs) => some (c, fs)
    | _ => none
  | _ => none
/-- e.f -/
def fldD (i : Nat) (x : D) (st : DSto) : DRes D := match insD x st with
  | some (_, fs) => match getN i fs with
    | some y => .ok y st
    | none => .bad
  | none => .bad
def dFld (i : Nat) (d : Den) : Den := fun ρ st => (d ρ st).bind (fldD i)
theorem ins_of {M : Mu} {H : Hp} {st : DSto} {x : D} {c : Nat} {fs : List (Nat × D)} {v : V} (s : SOk T M H st) (r : RV T M H x v) (q : insD x st = some (c, fs)) :
    ∃ a C dx vs, v = .ref a ∧ T.CT[c]? = some C ∧ Cls T.K C ∧ H a = some (.ins C dx vs) ∧ RF T M H C fs vs := by
  unfold insD at q
  cases x with
  | ins c' fs' =>
    cases q
    simp only [RV] at r
    obtain ⟨a, C, dx, vs, rfl, _, h1, h2, h3, h4⟩ := r
    exact ⟨a, C, dx, vs, rfl, h1, h2, h3, h4⟩
  | ref n =>
    simp only [RV] at r
    obtain ⟨a, rfl, e⟩ := r
    cases q1 : st[n]? with
    | none => simp only [q1] at q; cases q
    | some o =>
      cases o with
      | ins c' fs' =>
        simp only [q1] at q
        cases q
        obtain ⟨C, dx, vs, h1, h2, h3, h4⟩ := s.ro n _ a q1 e
        exact ⟨a, C, dx, vs, rfl, h1, h2, h3, h4⟩
      | _ => simp only [q1] at q; cases q
  | _ => cases q
theorem px_fld (i : Nat) {name : Str} (hF : Fits X T W) (hn : T.FT[i]? = some name) (h : PX X T W e d) (hb : attributeBase e name X.env (eval e X.env) = eval e X.env := by rfl) : PX X T W (.Attribute e name pos) (dFld i d) :=
  pe_imp (pe_fld h hb) fun σ H Q ⟨M, ρ, st, s, eo, h⟩ => by
    refine ⟨M, ρ, st, s, eo, (Post.bind (R := RV T) h).mono fun v H1 ⟨M1, x, st1, s1, x1, r1, h1⟩ => ?_⟩
    unfold fldD at h1
    cases q : insD x st1 with
    | none => simp only [q] at h1; exact h1.elim
    | some p =>
      obtain ⟨c, fs⟩ := p
      simp only [q] at h1
      cases q2 : getN i fs with
      | none => simp only [q2] at h1; exact h1.elim
      | some y =>
        simp only [q2] at h1
        obtain ⟨a, C, dx, vs, rfl, h2, h3, h4, h5⟩ := ins_of s1 r1 q
        obtain ⟨w, l, rw', na⟩ := fs_get h5 hn q2
        rw [hF.K]
        exact ⟨a, C, dx, vs, w, rfl, h4, h3, na, l, h1 M1 w H1 s1 .refl rw'⟩
/-- e.f = v -/
def setFld (c i : Nat) (x y : D) (st : DSto) : Option DSto := match x with
  | .ref n => match st[n]? with
    | some (.ins c' fs) => if c' = c ∧ fs.length < 1000 then some (st.set n (.ins c' (putN i y fs))) else none
    | _ => none
  | _ => none
def dSetF (c i : Nat) (o d : Den) : DenS := fun ρ st => (d ρ st).toS ρ fun y st => (o ρ st).toS ρ fun x st => match setFld c i x y st with
  | some st => .nx ρ st
  | none => .bad
theorem psx_fld (c i : Nat) {name : Str} {od : Den} (hF : Fits X T W) (hn : T.FT[i]? = some name) (hC : T.CT[c]? = some C) (na : NoAttr T.K C name) (ho : PX X T W o od) (hv : PX X T W e d)
    (hs : swapsWith e (some (.Attribute o name pos')) pos.line X.env = pure false := by rfl) : PSX X T W (.Assign [.Attribute o name pos'] e pos) (dSetF c i od d) :=
  ps_imp (ps_fld ho hv hs) fun D σ H ⟨M, ρ, st, s, eo, h⟩ => by
    refine ⟨M, ρ, st, s, eo, (PostS.bind (R := RV T) h eo).mono fun v H1 ⟨M1, y, st1, s1, x1, r1, h1⟩ => ?_⟩
    refine ⟨M1, ρ, st1, s1, eo.ex x1, (PostS.bind (R := RV T) h1 (eo.ex x1)).mono fun u H2 ⟨M2, x, st2, s2, x2, r2, h2⟩ => ?_⟩
    unfold setFld at h2
    cases x with
    | ref n =>
      cases q : st2[n]? with
      | none => simp only [q] at h2; exact h2.elim
      | some ob =>
        cases ob with
        | ins c' fs =>
          simp only [q] at h2
          by_cases hz : c' = c ∧ fs.length < 1000
          · rw [if_pos hz] at h2
            obtain ⟨rfl, hl⟩ := hz
            have r2' := r2
            simp only [RV] at r2'
            obtain ⟨a, rfl, e1⟩ := r2'
            obtain ⟨C', dx, vs, g2, g3, g4, g5⟩ := s2.ro n _ a q e1
            rw [hC] at g2; cases g2
            rw [hF.K]
            refine ⟨a, C, dx, vs, rfl, g4, g3, na, by rw [g5.len]; exact hl, ?_⟩
            have x3 : Ex M2 H2 M2 (upd H2 a (.ins C dx (putF name v vs))) := ex_write (List.mem_of_getElem? e1)
            refine h2 M2 σ _ (sok_write s2 e1 ⟨C, dx, _, hC, g3, upd_same, ?_⟩) x3 (((eo.ex x1).ex x2).ex x3)
            exact (fs_put g5 hn na (r1.ex x2)).mo x3.mo
          · rw [if_neg hz] at h2; exact h2.elim
        | lst xs => simp only [q] at h2; exact h2.elim
        | dct t xs => simp only [q] at h2; exact h2.elim
        | dead => simp only [q] at h2; exact h2.elim
    | _ => exact h2.elim
/-- the receiver is an instance of the class c -/
def isIns (c : Nat) (x : D) (st : DSto) : Bool := match insD x st with
  | some (c', _) => decide (c' = c)
  | none => false
theorem isIns_of {c : Nat} {x : D} {st : DSto} (h : isIns c x st = true) : ∃ fs, insD x st = some (c, fs) := by
  unfold isIns at h
  cases q : insD x st with
  | none => rw [q] at h; cases h
  | some p =>
    obtain ⟨c', fs⟩ := p
    rw [q] at h
    exact ⟨fs, by cases of_decide_eq_true h; rfl⟩
/-- o.m(..) -/
def dMeth (c : Nat) (G : FnD) (o : Den) (t : DenA) : Den := fun ρ st => (o ρ st).bind fun x st => if isIns c x st = true then (t ρ st).bind fun ds st => G (x :: ds) st else .bad
theorem px_meth (c : Nat) {m : Str} {pl : Sem Bool} {od : Den} (hF : Fits X T W) (hC : T.CT[c]? = some C) (hnf : m ∉ T.FT) (hm : Meth X.K C m f) (F : FnR X.prog X.w X.K X.mg X.base (L2.CX X.prog X.w) k f (spR T G)) (hr : Room k X.A) (ho : PX X T W o od) (ha : CallsBy X pos es (tA T W t))
    (ht : eval (.Call (.Attribute o m apos) es [] pos) X.env = (do
      let ov ← eval o X.env
      standAt apos.atName
      let (f, first) ← holding [ov] (getMethod ov m pl)
      callWith pos f first (backTo pos (starEach es X.env)) (backToKw pos (keywordEach [] X.env))) := by rfl) :
    PX X T W (.Call (.Attribute o m apos) es [] pos) (dMeth c G od t) := by
  refine ⟨fun pins s σ H Q I ⟨M, ρ, st, so, eo, h⟩ => ?_⟩
  refine PySem.W.methodCall_KW (pl := pl) (thn (ho.run pins s σ H _ I ⟨M, ρ, st, so, eo, Post.bind (R := RV T) h⟩) fun u s1 ⟨v, H1, I1, rv, M1, x, st1, s1', x1, r1, h1⟩ => ?_) ht
  by_cases hi : isIns c x st1 = true
  · rw [if_pos hi] at h1
    obtain ⟨fs, q⟩ := isIns_of hi
    obtain ⟨a, C', dx, vs, rfl, g2, g3, g4, g5⟩ := ins_of s1' r1 q
    rw [hC] at g2; cases g2
    obtain rfl : u = Value.ref a := rv
    rw [← hF.K] at g3
    refine getmeth_ok I1 g4 g3 hm (fs_none g5 hnf) ?_
    refine ha pins s1 σ H1 (.ref f) [.ref a] _ _ hm.kp I1 ⟨M1, ρ, st1, s1', eo.ex x1, Post.bind (R := RVs T) h1⟩ fun us vs2 H2 s2 I2 rv2 ⟨M2, ds, st2, s2', x2, r2, h2⟩ => ?_
    exact run_fnX (us := .ref a :: us) (vs := .ref a :: vs2) F hr hF.tk I2 (.cons rfl rv2) (spR_of s2' (by simp only [RVs]; exact ⟨_, _, rfl, r1.ex x2, r2⟩) h2)
  · rw [if_neg hi] at h1; exact h1.elim
/-- e.f, a property; its getter raises nothing -/
def dProp (c : Nat) (G : FnD) (o : Den) : Den := fun ρ st => (o ρ st).bind fun x st => if isIns c x st = true then (match G [x] st with
  | .ok d st => .ok d st
  | _ => .bad) else .bad
theorem px_prop (c : Nat) {m : Str} {pp g : Addr} {fd : FuncData} {ps : List Str} {od : Den} (hF : Fits X T W) (hC : T.CT[c]? = some C) (hp : PropOf X.K C m pp g) (F : FnOk X.prog X.w X.K X.mg X.base (L2.CX X.prog X.w) k g fd ps (spR T G)) (hb : Binds X.K fd ps []) (hr : Room (k + 1) X.A) (ho : PX X T W e od)
    (hab : attributeBase e m X.env (eval e X.env) = eval e X.env := by rfl) : PX X T W (.Attribute e m pos) (dProp c G od) := by
  refine ⟨fun pins s σ H Q I ⟨M, ρ, st, so, eo, h⟩ => ?_⟩
  refine attr_of hab (thn (ho.run pins s σ H _ I ⟨M, ρ, st, so, eo, Post.bind (R := RV T) h⟩) fun u s1 ⟨v, H1, I1, rv, M1, x, st1, s1', x1, r1, h1⟩ => ?_)
  by_cases hi : isIns c x st1 = true
  · rw [if_pos hi] at h1
    obtain ⟨fs, q⟩ := isIns_of hi
    obtain ⟨a, C', dx, vs, rfl, g2, g3, g4, g5⟩ := ins_of s1' r1 q
    rw [hC] at g2; cases g2
    obtain rfl : u = Value.ref a := rv
    rw [← hF.K] at g3
    refine getprop_ok (CX := L2.CX X.prog X.w) (E := E0) I1 g4 g3 hp F hr hb .nil passL ⟨M1, [x], st1, s1', RVs.one r1, ?_⟩
    revert h1
    generalize G [x] st1 = R
    intro h1
    cases R with
    | ok d st2 => exact h1
    | exc c fs st2 => exact h1.elim
    | bad => exact h1
  · rw [if_neg hi] at h1; exact h1.elim
/-- C.m(..), a static method -/
structure SMet (K : PySem.W.Frag) (C : Addr) (m : Str) (g : Addr) : Prop where
  rd : PySem.W.readsIn K C (.type "type") = true
  ga : PySem.W.specialIn K (.ref C) "__getattribute__" = some (some (.builtin "type.__getattribute__"))
  at_ : ∃ p, PySem.W.findCls K (.ref C) (.type "type") m = some (.get (.builtin "staticmethod.__get__") (.ref p) .none (.ref C)) ∧ ∃ rest, PySem.W.recIn K p "staticmethod" = some (.ref g :: rest)
  kp : PySem.W.keepIn K (.ref g) = true
theorem px_static {x m : Str} {pl : Sem Bool} (hF : Fits X T W) (hS : SMet X.K C m f) (F : FnR X.prog X.w X.K X.mg X.base (L2.CX X.prog X.w) k f (spR T G)) (hr : Room k X.A) (hm : X.mg x = some (.ref C)) (ha : CallsBy X pos es (tA T W t)) (hg : Gl X x := by rfl)
    (hdb : (x == ("__debug__" : Str)) = false := by decide)
    (ht : eval (.Call (.Attribute (.Name x p) m apos) es [] pos) X.env = (do
      let ov ← eval (.Name x p) X.env
      standAt apos.atName
      let (f, first) ← holding [ov] (getMethod ov m pl)
      callWith pos f first (backTo pos (starEach es X.env)) (backToKw pos (keywordEach [] X.env))) := by rfl) :
    PX X T W (.Call (.Attribute (.Name x p) m apos) es [] pos) (dCall G t) := by
  refine ⟨fun pins s σ H Q I ⟨M, ρ, st, so, eo, h⟩ => ?_⟩
  refine PySem.W.methodCall_KW (pl := pl) (ld_glob I hg hm ?_ hdb) ht
  obtain ⟨p, hat, rest, hrec⟩ := hS.at_
  refine PySem.W.method_cls I.kIn hS.ga (PySem.W.cls_bind I.kIn hS.rd hat (wpAny_call (PySem.W.sm_get (s := { s with toks := s.toks + 1 }) I.kIn hrec (PySem.W.handed_on rfl ?_))))
  refine ha pins _ σ H (.ref f) [] _ _ hS.kp (I.tok (s.toks + 1)) ⟨M, ρ, st, so, eo, Post.bind (R := RVs T) h⟩ fun us vs H1 s1 I1 rv ⟨M1, ds, st1, s1', x1, r1, h1⟩ => ?_
  exact run_fnX F hr hF.tk I1 rv (spR_of s1' r1 h1)
end
end FV

set_option Elab.async false
set_option linter.all false
set_option maxRecDepth 100000
set_option maxHeartbeats 4000000
namespace FV
open PySem PySem.Spec PyProof.Rows L2

/-! ### data as PyData -/
mutual
def pyOf (lk : Nat → Option PyData) : D → Option PyData
  | .non => some .none
  | .bl b => some (.bool b)
  | .int i => some (.int i)
  | .str s => some (.str s)
  | .tup xs => (pyOfs lk xs).map .tuple
  | .lst xs => (pyOfs lk xs).map .list
  | .dct _ _ => none
  | .ins _ _ => none
  | .exv _ _ => none
  | .ref n => lk n
  | .scr ns => some (.list (ns.map .int))
def pyOfs (lk : Nat → Option PyData) : List D → Option (List PyData)
  | [] => some []
  | x :: xs => (pyOf lk x).bind fun a => (pyOfs lk xs).map fun b => a :: b
end
def lookL (st : DSto) (lk : Nat → Option PyData) (n : Nat) : Option PyData := match st[n]? with
  | some (.lst xs) => (pyOfs lk xs).map .list
  | _ => none
def reify (st : DSto) : D → Option PyData := pyOf (lookL st (lookL st (lookL st fun _ => none)))
section
variable {T : Tb} {M : Mu} {H : Hp} {st : DSto} {lk : Nat → Option PyData}
def LkOk (T : Tb) (M : Mu) (H : Hp) (lk : Nat → Option PyData) : Prop := ∀ n p a, lk n = some p → M.l[n]? = some a → Dp T.K H (.ref a) p
theorem dp_ints (K : PySem.W.Frag) (H : Hp) : ∀ ns : List Int, DpAll K H (ns.map V.int) (ns.map PyData.int)
  | [] => .nil
  | n :: ns => .cons (.int n) (dp_ints K H ns)
mutual
theorem pyOf_ok (h : LkOk T M H lk) : ∀ {d : D} {v : V} {p : PyData}, pyOf lk d = some p → RV T M H d v → Dp T.K H v p
  | .non, v, p, e, r => by simp only [RV] at r; simp only [pyOf, Option.some.injEq] at e; subst r e; exact .non
  | .bl b, v, p, e, r => by simp only [RV] at r; simp only [pyOf, Option.some.injEq] at e; subst r e; exact .bl b
  | .int i, v, p, e, r => by simp only [RV] at r; simp only [pyOf, Option.some.injEq] at e; subst r e; exact .int i
  | .str s, v, p, e, r => by simp only [RV] at r; simp only [pyOf, Option.some.injEq] at e; subst r e; exact .str s
  | .tup xs, v, p, e, r => by
    simp only [RV] at r
    obtain ⟨a, vs, rfl, _, e1, rr⟩ := r
    simp only [pyOf, Option.map_eq_some_iff] at e
    obtain ⟨ps, e2, rfl⟩ := e
    exact .tup (SqT.of e1) (pyOfs_ok h e2 rr)
  | .lst xs, v, p, e, r => by
    simp only [RV] at r
    obtain ⟨a, vs, rfl, _, e1, rr⟩ := r
    simp only [pyOf, Option.map_eq_some_iff] at e
    obtain ⟨ps, e2, rfl⟩ := e
    exact .lst (SqL.of e1) (pyOfs_ok h e2 rr)
  | .dct _ _, v, p, e, r => by simp [pyOf] at e
  | .ins _ _, v, p, e, r => by simp [pyOf] at e
  | .exv _ _, v, p, e, r => by simp [pyOf] at e
  | .ref n, v, p, e, r => by
    simp only [RV] at r
    obtain ⟨a, rfl, e1⟩ := r
    exact h n p a e e1
  | .scr ns, v, p, e, r => by
    simp only [RV] at r
    obtain ⟨a, rfl, e1⟩ := r
    simp only [pyOf, Option.some.injEq] at e
    subst e
    exact .lst (sqL_scr (M := M) e1) (dp_ints _ _ ns)
theorem pyOfs_ok (h : LkOk T M H lk) : ∀ {d : List D} {v : List V} {p : List PyData}, pyOfs lk d = some p → RVs T M H d v → DpAll T.K H v p
  | [], v, p, e, r => by simp only [RVs] at r; simp only [pyOfs, Option.some.injEq] at e; subst r e; exact .nil
  | x :: xs, v, p, e, r => by
    simp only [RVs] at r
    obtain ⟨w, ws, rfl, r1, r2⟩ := r
    simp only [pyOfs] at e
    obtain ⟨a, e1, e⟩ := Option.bind_eq_some_iff.mp e
    obtain ⟨b, e2, e⟩ := Option.map_eq_some_iff.mp e
    subst e
    exact .cons (pyOf_ok h e1 r1) (pyOfs_ok h e2 r2)
end
theorem lookL_ok (s : SOk T M H st) (h : LkOk T M H lk) : LkOk T M H (lookL st lk) := fun n p a e e1 => by
  unfold lookL at e
  cases q : st[n]? with
  | none => rw [q] at e; cases e
  | some o =>
    rw [q] at e
    cases o with
    | lst xs =>
      obtain ⟨ps, e2, rfl⟩ := Option.map_eq_some_iff.mp e
      obtain ⟨vs, e3, r⟩ := s.ro n _ a q e1
      exact .lst (SqL.of e3) (pyOfs_ok h e2 r)
    | _ => cases e
theorem reify_ok (s : SOk T M H st) {d : D} {v : V} {p : PyData} (e : reify st d = some p) (r : RV T M H d v) : Dp T.K H v p :=
  pyOf_ok (lookL_ok s (lookL_ok s (lookL_ok s fun _ _ _ e => by cases e))) e r
end

/-! ### comparisons -/
def eqO : OpD := fun x y st => match reify st x, reify st y with
  | some a, some b => if SeqAt.shaped a = true ∧ SeqAt.shaped b = true then some (.bl (PyData.eqv a b), st) else none
  | _, _ => none
def neO : OpD := fun x y st => match reify st x, reify st y with
  | some a, some b => if SeqAt.shaped a = true ∧ SeqAt.shaped b = true then some (.bl (!PyData.eqv a b), st) else none
  | _, _ => none
def cmpI (f : Int → Int → Bool) : OpD := fun x y st => match x, y with
  | .int i, .int j => some (.bl (f i j), st)
  | _, _ => none
abbrev ltO : OpD := cmpI fun i j => decide (i < j)
abbrev leO : OpD := cmpI fun i j => decide (i ≤ j)
abbrev gtO : OpD := cmpI fun i j => decide (j < i)
abbrev geO : OpD := cmpI fun i j => decide (j ≤ i)
/-- flat data -/
def flatD : D → Bool
  | .non | .bl _ | .int _ | .str _ => true
  | _ => false
def vOf : D → V
  | .bl b => .bl b
  | .int i => .int i
  | .str s => .str s
  | _ => .non
def memO (neg : Bool) : OpD := fun x y st => match y with
  | .tup ys => if flatD x = true ∧ ys.all flatD = true then some (.bl (if neg then !inV (vOf x) (ys.map vOf) else inV (vOf x) (ys.map vOf)), st) else none
  | .ref _ | .lst _ => match reify st x, reify st y with
    | some a, some (.list ds) => if SeqAt.shaped a = true ∧ SeqAt.shaped (.list ds) = true then some (.bl (if neg then !ds.any fun z => PyData.eqv z a else ds.any fun z => PyData.eqv z a), st) else none
    | _, _ => none
  | _ => none
abbrev inS : OpD := memO false
abbrev ninS : OpD := memO true
def isO : OpD := fun x y st => match y with
  | .non => some (.bl (decide (x = .non)), st)
  | .bl b => match x with
    | .bl a => some (.bl (decide (a = b)), st)
    | _ => none
  | _ => none
def nisO : OpD := fun x y st => match y with
  | .non => some (.bl (!decide (x = .non)), st)
  | .bl b => match x with
    | .bl a => some (.bl (!decide (a = b)), st)
    | _ => none
  | _ => none
section
variable {X : Cx} {T : Tb} {M : Mu} {H : Hp} {st : DSto}
theorem PostO.fin {d : D} {v : V} {Q : VK} (s : SOk T M H st) (r : RV T M H d v) (h : PostO T M H (some (d, st)) Q) : Q v H := h M v H s .refl r
theorem ox_eq (hK : X.K = T.K) (hu : X.A.units + 64 < cLine) : OpX X T (compareOp .Eq) eqO := OpR.imp (op_eqD hu) fun x y H Q ⟨M, d, e, st, s, r1, r2, h⟩ => by
  unfold eqO at h
  cases q1 : reify st d with
  | none => simp only [q1] at h; exact h.elim
  | some a =>
    cases q2 : reify st e with
    | none => simp only [q1, q2] at h; exact h.elim
    | some b =>
      simp only [q1, q2] at h
      by_cases hs : SeqAt.shaped a = true ∧ SeqAt.shaped b = true
      · rw [if_pos hs] at h
        rw [hK]
        exact ⟨a, b, reify_ok s q1 r1, reify_ok s q2 r2, hs.1, hs.2, PostO.fin s (by simp [RV]) h⟩
      · rw [if_neg hs] at h; exact h.elim
theorem ox_ne (hK : X.K = T.K) (hu : X.A.units + 64 < cLine) : OpX X T (compareOp .NotEq) neO := OpR.imp (op_neD hu) fun x y H Q ⟨M, d, e, st, s, r1, r2, h⟩ => by
  unfold neO at h
  cases q1 : reify st d with
  | none => simp only [q1] at h; exact h.elim
  | some a =>
    cases q2 : reify st e with
    | none => simp only [q1, q2] at h; exact h.elim
    | some b =>
      simp only [q1, q2] at h
      by_cases hs : SeqAt.shaped a = true ∧ SeqAt.shaped b = true
      · rw [if_pos hs] at h
        rw [hK]
        exact ⟨a, b, reify_ok s q1 r1, reify_ok s q2 r2, hs.1, hs.2, PostO.fin s (by simp [RV]) h⟩
      · rw [if_neg hs] at h; exact h.elim
theorem ints_of {d e : D} {x y : V} {i j : Int} (r1 : RV T M H (.int i) x) (r2 : RV T M H (.int j) y) : x = .int i ∧ y = .int j := by
  simp only [RV] at r1 r2; exact ⟨r1, r2⟩
theorem ox_cmpI {op : CmpOp} {f : Int → Int → Bool} (h0 : OpR X (compareOp op) (rI0 fun i j => .bl (f i j))) : OpX X T (compareOp op) (cmpI f) := OpR.imp h0 fun x y H Q ⟨M, d, e, st, s, r1, r2, h⟩ => by
  cases d with
  | int i =>
    cases e with
    | int j =>
      obtain ⟨rfl, rfl⟩ := ints_of (d := .non) (e := .non) r1 r2
      exact ⟨i, j, rfl, rfl, PostO.fin s (by simp [RV]) h⟩
    | _ => exact h.elim
  | _ => exact h.elim
theorem ox_lt : OpX X T (compareOp .Lt) ltO := ox_cmpI op_lt
theorem ox_le : OpX X T (compareOp .LtE) leO := ox_cmpI op_le
theorem ox_gt : OpX X T (compareOp .Gt) gtO := ox_cmpI op_gt
theorem ox_ge : OpX X T (compareOp .GtE) geO := ox_cmpI op_ge
theorem flat_of {d : D} {v : V} (r : RV T M H d v) (h : flatD d = true) : v = vOf d ∧ flatV v = true := by
  cases d with
  | non => simp only [RV] at r; subst r; exact ⟨rfl, rfl⟩
  | bl b => simp only [RV] at r; subst r; exact ⟨rfl, rfl⟩
  | int i => simp only [RV] at r; subst r; exact ⟨rfl, rfl⟩
  | str b => simp only [RV] at r; subst r; exact ⟨rfl, rfl⟩
  | _ => cases h
theorem flats_of : ∀ {ds : List D} {vs : List V}, RVs T M H ds vs → ds.all flatD = true → vs = ds.map vOf ∧ vs.all flatV = true
  | [], _, r, _ => by simp only [RVs] at r; subst r; exact ⟨rfl, rfl⟩
  | d :: ds, _, r, h => by
    simp only [RVs] at r
    obtain ⟨v, ws, rfl, r1, r2⟩ := r
    rw [List.all_cons, Bool.and_eq_true] at h
    obtain ⟨e1, f1⟩ := flat_of r1 h.1
    obtain ⟨e2, f2⟩ := flats_of r2 h.2
    exact ⟨by rw [List.map_cons, ← e1, ← e2], by rw [List.all_cons, f1, f2]; rfl⟩
theorem ox_in (hK : X.K = T.K) (hu : X.A.units + 65 < cLine) : OpX X T (compareOp .In) inS := OpR.imp (op_in_seq.or (op_inD hu)) fun x y H Q ⟨M, d, e, st, s, r1, r2, h⟩ => by
  unfold inS memO at h
  cases e with
  | tup ys =>
    dsimp only at h
    by_cases hf : flatD d = true ∧ ys.all flatD = true
    · rw [if_pos hf] at h
      simp only [RV] at r2
      obtain ⟨a, vs, rfl, _, e1, rr⟩ := r2
      obtain ⟨q1, f1⟩ := flat_of r1 hf.1
      obtain ⟨q2, f2⟩ := flats_of rr hf.2
      subst q1 q2
      exact .inl ⟨a, _, rfl, .inr (SqT.of e1), f1, f2, PostO.fin s (by simp [RV]) h⟩
    · rw [if_neg hf] at h; exact h.elim
  | ref n =>
    dsimp only at h
    cases q1 : reify st d with
    | none => simp only [q1] at h; exact h.elim
    | some a =>
      cases q2 : reify st (.ref n) with
      | none => simp only [q1, q2] at h; exact h.elim
      | some b =>
        cases b with
        | list ds =>
          simp only [q1, q2] at h
          by_cases hs : SeqAt.shaped a = true ∧ SeqAt.shaped (.list ds) = true
          · rw [if_pos hs] at h
            rw [hK]
            exact .inr ⟨a, ds, reify_ok s q1 r1, reify_ok s q2 r2, hs.1, hs.2, PostO.fin s (by simp [RV]) h⟩
          · rw [if_neg hs] at h; exact h.elim
        | _ => simp only [q1, q2] at h; exact h.elim
  | lst zs =>
    dsimp only at h
    cases q1 : reify st d with
    | none => simp only [q1] at h; exact h.elim
    | some a =>
      cases q2 : reify st (.lst zs) with
      | none => simp only [q1, q2] at h; exact h.elim
      | some b =>
        cases b with
        | list ds =>
          simp only [q1, q2] at h
          by_cases hs : SeqAt.shaped a = true ∧ SeqAt.shaped (.list ds) = true
          · rw [if_pos hs] at h
            rw [hK]
            exact .inr ⟨a, ds, reify_ok s q1 r1, reify_ok s q2 r2, hs.1, hs.2, PostO.fin s (by simp [RV]) h⟩
          · rw [if_neg hs] at h; exact h.elim
        | _ => simp only [q1, q2] at h; exact h.elim
  | _ => exact h.elim
theorem ox_nin (hK : X.K = T.K) (hu : X.A.units + 65 < cLine) : OpX X T (compareOp .NotIn) ninS := OpR.imp (op_notIn_seq.or (op_notInD hu)) fun x y H Q ⟨M, d, e, st, s, r1, r2, h⟩ => by
  unfold ninS memO at h
  cases e with
  | tup ys =>
    dsimp only at h
    by_cases hf : flatD d = true ∧ ys.all flatD = true
    · rw [if_pos hf] at h
      simp only [RV] at r2
      obtain ⟨a, vs, rfl, _, e1, rr⟩ := r2
      obtain ⟨q1, f1⟩ := flat_of r1 hf.1
      obtain ⟨q2, f2⟩ := flats_of rr hf.2
      subst q1 q2
      exact .inl ⟨a, _, rfl, .inr (SqT.of e1), f1, f2, PostO.fin s (by simp [RV]) h⟩
    · rw [if_neg hf] at h; exact h.elim
  | ref n =>
    dsimp only at h
    cases q1 : reify st d with
    | none => simp only [q1] at h; exact h.elim
    | some a =>
      cases q2 : reify st (.ref n) with
      | none => simp only [q1, q2] at h; exact h.elim
      | some b =>
        cases b with
        | list ds =>
          simp only [q1, q2] at h
          by_cases hs : SeqAt.shaped a = true ∧ SeqAt.shaped (.list ds) = true
          · rw [if_pos hs] at h
            rw [hK]
            exact .inr ⟨a, ds, reify_ok s q1 r1, reify_ok s q2 r2, hs.1, hs.2, PostO.fin s (by simp [RV]) h⟩
          · rw [if_neg hs] at h; exact h.elim
        | _ => simp only [q1, q2] at h; exact h.elim
  | lst zs =>
    dsimp only at h
    cases q1 : reify st d with
    | none => simp only [q1] at h; exact h.elim
    | some a =>
      cases q2 : reify st (.lst zs) with
      | none => simp only [q1, q2] at h; exact h.elim
      | some b =>
        cases b with
        | list ds =>
          simp only [q1, q2] at h
          by_cases hs : SeqAt.shaped a = true ∧ SeqAt.shaped (.list ds) = true
          · rw [if_pos hs] at h
            rw [hK]
            exact .inr ⟨a, ds, reify_ok s q1 r1, reify_ok s q2 r2, hs.1, hs.2, PostO.fin s (by simp [RV]) h⟩
          · rw [if_neg hs] at h; exact h.elim
        | _ => simp only [q1, q2] at h; exact h.elim
  | _ => exact h.elim
theorem non_iff {d : D} {v : V} (r : RV T M H d v) : decide (v = .non) = decide (d = .non) := by
  cases d with
  | non => simp only [RV] at r; simp [r]
  | bl b => simp only [RV] at r; simp [r]
  | int b => simp only [RV] at r; simp [r]
  | str b => simp only [RV] at r; simp [r]
  | tup b => simp only [RV] at r; obtain ⟨a, vs, e, _⟩ := r; simp [e]
  | lst b => simp only [RV] at r; obtain ⟨a, vs, e, _⟩ := r; simp [e]
  | dct t b => simp only [RV] at r; obtain ⟨a, e, _⟩ := r; simp [e]
  | ins c b => simp only [RV] at r; obtain ⟨a, C, dx, vs, e, _⟩ := r; simp [e]
  | exv c b => simp only [RV] at r; obtain ⟨a, C, dx, e, _⟩ := r; simp [e]
  | ref b => simp only [RV] at r; obtain ⟨a, e, _⟩ := r; simp [e]
  | scr b => simp only [RV] at r; obtain ⟨a, e, _⟩ := r; simp [e]
theorem ox_is : OpX X T (compareOp .Is) isO := OpR.imp (op_isN.or op_isBl) fun x y H Q ⟨M, d, e, st, s, r1, r2, h⟩ => by
  unfold isO at h
  cases e with
  | non =>
    simp only [RV] at r2
    subst r2
    exact .inl ⟨rfl, by rw [non_iff r1]; exact PostO.fin s (by simp [RV]) h⟩
  | bl b =>
    cases d with
    | bl a =>
      simp only [RV] at r1 r2
      subst r1 r2
      exact .inr ⟨a, b, rfl, rfl, PostO.fin s (by simp [RV]) h⟩
    | _ => exact h.elim
  | _ => exact h.elim
theorem ox_nis : OpX X T (compareOp .IsNot) nisO := OpR.imp (op_notN.or op_notBl) fun x y H Q ⟨M, d, e, st, s, r1, r2, h⟩ => by
  unfold nisO at h
  cases e with
  | non =>
    simp only [RV] at r2
    subst r2
    exact .inl ⟨rfl, by rw [non_iff r1]; exact PostO.fin s (by simp [RV]) h⟩
  | bl b =>
    cases d with
    | bl a =>
      simp only [RV] at r1 r2
      subst r1 r2
      exact .inr ⟨a, b, rfl, rfl, PostO.fin s (by simp [RV]) h⟩
    | _ => exact h.elim
  | _ => exact h.elim
end

/-! ### arithmetic -/
/-- the items of a list -/
def lstD (x : D) (st : DSto) : Option (List D) := match x with
  | .lst xs => some xs
  | .ref n => match st[n]? with
    | some (.lst xs) => some xs
    | _ => none
  | _ => none
def addO : OpD := fun x y st => match x, y with
  | .int i, .int j => some (.int (i + j), st)
  | .str a, .str b => if a.length + b.length ≤ sizeLine then some (.str (a ++ b), st) else none
  | .tup xs, .tup ys => if xs.length + ys.length ≤ sizeLine then some (.tup (xs ++ ys), st) else none
  | x, y => match lstD x st, lstD y st with
    | some xs, some ys => if xs.length + ys.length ≤ sizeLine then some (.lst (xs ++ ys), st) else none
    | _, _ => none
def subO : OpD := fun x y st => match x, y with
  | .int i, .int j => some (.int (i - j), st)
  | _, _ => none
def mulO : OpD := fun x y st => match x, y with
  | .int i, .int j => if (-(2 ^ 64) < i ∧ i < 2 ^ 64) ∨ (-(2 ^ 64) < j ∧ j < 2 ^ 64) then some (.int (i * j), st) else none
  | .str a, .int j => if a.length ≤ 16 ∧ 0 ≤ j ∧ j ≤ 1000 then some (.str (Txt.mul a j), st) else none
  | x, .int k => match lstD x st with
    | some xs => if -(2 ^ 63) ≤ k ∧ k < 2 ^ 63 ∧ xs.length * k.toNat ≤ sizeLine then some (.lst (List.replicate k.toNat xs).flatten, st) else none
    | _ => none
  | _, _ => none
def fdivO : OpD := fun x y st => match x, y with
  | .int i, .int j => if 0 < j ∧ j < 1073741824 then some (.int (i / j), st) else none
  | _, _ => none
def modO : OpD := fun x y st => match x, y with
  | .int i, .int j => if 0 < j then some (.int (i % j), st) else none
  | _, _ => none
def powO : OpD := fun x y st => match x, y with
  | .int i, .int j => if 0 ≤ j ∧ j ≤ 1000000 ∧ i.natAbs < 2 ^ 64 then some (.int (i ^ j.toNat), st) else none
  | _, _ => none
section
variable {X : Cx} {T : Tb} {M : Mu} {H : Hp} {st : DSto}
theorem lstD_of {x : D} {xs : List D} {v : V} (s : SOk T M H st) (r : RV T M H x v) (q : lstD x st = some xs) : ∃ a vs, v = .ref a ∧ H a = some (.lst vs) ∧ RVs T M H xs vs := by
  unfold lstD at q
  cases x with
  | lst ys =>
    cases q
    simp only [RV] at r
    obtain ⟨a, vs, rfl, _, e, rr⟩ := r
    exact ⟨a, vs, rfl, e, rr⟩
  | ref n =>
    simp only [RV] at r
    obtain ⟨a, rfl, e⟩ := r
    cases q1 : st[n]? with
    | none => simp only [q1] at q; cases q
    | some o =>
      cases o with
      | lst ys =>
        simp only [q1] at q
        cases q
        obtain ⟨vs, e1, rr⟩ := s.ro n _ a q1 e
        exact ⟨a, vs, rfl, e1, rr⟩
      | _ => simp only [q1] at q; cases q
  | _ => cases q
theorem alloc_fin {d : DObj} {o : HO} {p : Addr} {Q : VK} (s : SOk T M H st) (hp : H p = none) (r : RO T (M.add p) (upd H p o) d p) (h : PostO T M H (some (.ref st.length, st ++ [d])) Q) : Q (.ref p) (upd H p o) := by
  obtain ⟨a1, a2, a3⟩ := new_ok s hp r
  exact h _ _ _ a1 a2 a3
/-- a new list by value -/
theorem lst_fin {xs : List D} {vs : List V} {p : Addr} {Q : VK} (s : SOk T M H st) (hp : H p = none) (r : RVs T M H xs vs) (h : PostO T M H (some (.lst xs, st)) Q) : Q (.ref p) (upd H p (.lst vs)) := by
  obtain ⟨a1, a2, a3⟩ := upd_lst_ok s r hp
  exact h _ _ _ a1 a2 a3
theorem rvs_rep {xs : List D} {vs : List V} (r : RVs T M H xs vs) : ∀ n, RVs T M H (List.replicate n xs).flatten (List.replicate n vs).flatten
  | 0 => by simp [RVs]
  | n + 1 => by
    rw [List.replicate_succ, List.replicate_succ, List.flatten_cons, List.flatten_cons]
    exact r.app (rvs_rep r n)
theorem RVs.nil_iff {xs : List D} {vs : List V} (r : RVs T M H xs vs) : vs = [] ↔ xs = [] := by
  have := r.len
  constructor
  · rintro rfl; exact List.eq_nil_of_length_eq_zero (by simpa using this.symm)
  · rintro rfl; exact List.eq_nil_of_length_eq_zero (by simpa using this)
theorem ox_add (hK : X.K = T.K) : OpX X T (binaryOp .Add) addO := OpR.imp ((op_add.or op_add_str).or (op_catA.or op_cat)) fun x y H Q ⟨M, d, e, st, s, r1, r2, h⟩ => by
  unfold addO at h
  split at h
  · rename_i i j
    simp only [RV] at r1 r2; subst r1 r2
    exact .inl (.inl ⟨i, j, rfl, rfl, PostO.fin s (by simp [RV]) h⟩)
  · rename_i a b
    by_cases hz : a.length + b.length ≤ sizeLine
    · rw [if_pos hz] at h
      simp only [RV] at r1 r2; subst r1 r2
      exact .inl (.inr ⟨a, b, rfl, rfl, hz, PostO.fin s (by simp [RV]) h⟩)
    · rw [if_neg hz] at h; exact h.elim
  · rename_i xs ys
    by_cases hz : xs.length + ys.length ≤ sizeLine
    · rw [if_pos hz] at h
      have q1 := r1; have q2 := r2
      simp only [RV] at r1 r2
      obtain ⟨a, vs, rfl, _, e1, rr1⟩ := r1
      obtain ⟨b, ws, rfl, _, e2, rr2⟩ := r2
      refine .inr (.inl ⟨a, b, vs, ws, rfl, rfl, SqT.of e1, SqT.of e2, by rw [rr1.len, rr2.len]; exact hz, fun h0 => ?_, fun h0 h1 => ?_, fun h0 h1 p hp => ?_⟩)
      · have : xs = [] := rr1.nil_iff.mp h0
        subst this
        exact PostO.fin s (by simpa using q2) h
      · have : ys = [] := rr2.nil_iff.mp h1
        subst this
        exact PostO.fin s (by simpa using q1) h
      · obtain ⟨a1, a2, a3⟩ := upd_tup_ok s (rr1.app rr2) hp
        exact h M _ _ a1 a2 a3
    · rw [if_neg hz] at h; exact h.elim
  · cases q1 : lstD d st with
    | none => simp only [q1] at h; exact h.elim
    | some xs =>
      cases q2 : lstD e st with
      | none => simp only [q1, q2] at h; exact h.elim
      | some ys =>
        simp only [q1, q2] at h
        by_cases hz : xs.length + ys.length ≤ sizeLine
        · rw [if_pos hz] at h
          obtain ⟨a, vs, rfl, h1, rr1⟩ := lstD_of s r1 q1
          obtain ⟨b, ws, rfl, h2, rr2⟩ := lstD_of s r2 q2
          exact .inr (.inr ⟨a, b, vs, ws, rfl, rfl, h1, h2, by rw [rr1.len, rr2.len]; exact hz, fun p hp => lst_fin s hp (rr1.app rr2) h⟩)
        · rw [if_neg hz] at h; exact h.elim
theorem ox_int {op : Operator} {C : Int → Int → Prop} [∀ i j, Decidable (C i j)] {g : Int → Int → Int} (h0 : OpR X (binaryOp op) (rI C fun i j => .int (g i j))) :
    OpX X T (binaryOp op) (fun x y st => match x, y with | .int i, .int j => if C i j then some (.int (g i j), st) else none | _, _ => none) := OpR.imp h0 fun x y H Q ⟨M, d, e, st, s, r1, r2, h⟩ => by
  cases d with
  | int i =>
    cases e with
    | int j =>
      dsimp only at h
      by_cases hz : C i j
      · rw [if_pos hz] at h
        simp only [RV] at r1 r2; subst r1 r2
        exact ⟨i, j, rfl, rfl, hz, PostO.fin s (by simp [RV]) h⟩
      · rw [if_neg hz] at h; exact h.elim
    | _ => exact h.elim
  | _ => exact h.elim
theorem ox_sub : OpX X T (binaryOp .Sub) subO := OpR.imp op_sub fun x y H Q ⟨M, d, e, st, s, r1, r2, h⟩ => by
  cases d with
  | int i =>
    cases e with
    | int j =>
      simp only [RV] at r1 r2; subst r1 r2
      exact ⟨i, j, rfl, rfl, PostO.fin s (by simp [RV]) h⟩
    | _ => exact h.elim
  | _ => exact h.elim
instance (i j : Int) : Decidable (CDiv i j) := inferInstanceAs (Decidable (_ ∧ _))
instance (i j : Int) : Decidable (CPow i j) := inferInstanceAs (Decidable (_ ∧ _))
theorem ox_fdiv : OpX X T (binaryOp .FloorDiv) fdivO := ox_int (C := CDiv) op_fdiv
theorem ox_mod : OpX X T (binaryOp .Mod) modO := ox_int (C := fun _ j => 0 < j) op_mod
theorem ox_pow : OpX X T (binaryOp .Pow) powO := ox_int (C := CPow) op_pow
theorem op_mul_str : OpR X (binaryOp .Mult) (fun x y H Q => ∃ a k, x = .str a ∧ y = .int k ∧ a.length ≤ 16 ∧ 0 ≤ k ∧ k ≤ 1000 ∧ Q (.str (Txt.mul a k)) H) := by
  intro pins s σ H x y v u Q I rx ry h
  obtain ⟨a, k, rfl, rfl, h1, h2, h3, q⟩ := h
  obtain ⟨t, rfl⟩ := rx
  obtain ⟨t', rfl⟩ := ry
  exact SB.mul (mulOk_of 16 1000 h1 (by omega) (by omega) (by decide) (by decide)) fun t' k' => ⟨.str _, H, I.tok _, ⟨_, rfl⟩, q⟩
theorem ox_mul : OpX X T (binaryOp .Mult) mulO := OpR.imp (op_mul.or (op_mul_str.or op_rep)) fun x y H Q ⟨M, d, e, st, s, r1, r2, h⟩ => by
  unfold mulO at h
  split at h
  · rename_i i j
    by_cases hz : (-(2 ^ 64) < i ∧ i < 2 ^ 64) ∨ (-(2 ^ 64) < j ∧ j < 2 ^ 64)
    · rw [if_pos hz] at h
      simp only [RV] at r1 r2; subst r1 r2
      exact .inl ⟨i, j, rfl, rfl, hz, PostO.fin s (by simp [RV]) h⟩
    · rw [if_neg hz] at h; exact h.elim
  · rename_i a j
    by_cases hz : a.length ≤ 16 ∧ 0 ≤ j ∧ j ≤ 1000
    · rw [if_pos hz] at h
      simp only [RV] at r1 r2; subst r1 r2
      exact .inr (.inl ⟨a, j, rfl, rfl, hz.1, hz.2.1, hz.2.2, PostO.fin s (by simp [RV]) h⟩)
    · rw [if_neg hz] at h; exact h.elim
  · rename_i k _ _
    cases q1 : lstD d st with
    | none => simp only [q1] at h; exact h.elim
    | some xs =>
      simp only [q1] at h
      by_cases hz : -(2 ^ 63) ≤ k ∧ k < 2 ^ 63 ∧ xs.length * k.toNat ≤ sizeLine
      · rw [if_pos hz] at h
        obtain ⟨a, vs, rfl, h1, rr⟩ := lstD_of s r1 q1
        simp only [RV] at r2; subst r2
        exact .inr (.inr ⟨a, k, vs, rfl, rfl, h1, hz.1, hz.2.1, by rw [rr.len]; exact hz.2.2, fun p hp => lst_fin s hp (rvs_rep rr _) h⟩)
      · rw [if_neg hz] at h; exact h.elim
  · exact h.elim
end
end FV

set_option Elab.async false
set_option linter.all false
set_option maxRecDepth 100000
set_option maxHeartbeats 4000000
namespace FV
open PySem PySem.Spec PyProof.Rows L2

abbrev OpL := List D → DSto → Option (D × DSto)
def rC (T : Tb) (g : OpL) : List V → Hp → VK → Prop := fun vs H Q => ∃ M ds st, SOk T M H st ∧ RVs T M H ds vs ∧ PostO T M H (g ds st) Q
abbrev CallX (X : Cx) (T : Tb) (f : Value) (g : OpL) : Prop := CallR X f (rC T g)
theorem CallR.imp {X : Cx} {f : Value} {r r' : List V → Hp → VK → Prop} (h : CallR X f r) (k : ∀ vs H Q, r' vs H Q → r vs H Q) : CallR X f r' := fun pins s σ H xs us Q I r q => h pins s σ H xs us Q I r (k xs H Q q)
def dB' (g : OpL) (t : DenA) : Den := fun ρ st => (t ρ st).bind fun ds st => ofO (g ds st)
section
variable {X : Cx} {T : Tb} {W : WX} {pos p apos : Pos} {e : Expr} {es : List Expr} {d : Den} {t : DenA} {g : OpL} {x : Str} {id : String}
theorem tCB_of {σ : L2.St} {H : Hp} {Q : VK} (h : tI T W (dB' g t) σ H Q) : tCB (rC T g) (tA T W t) σ H Q := by
  obtain ⟨M, ρ, st, s, eo, h⟩ := h
  exact ⟨M, ρ, st, s, eo, (Post.bind (R := RVs T) h).mono fun vs H1 ⟨M1, ds, st1, s1, x1, r1, h1⟩ => ⟨M1, ds, st1, s1, r1, PostO.of h1⟩⟩
theorem px_callB (hc : CallX X T (.builtin id) g) (hm : X.mg x = none) (ha : PAX X T W (e :: es) t) (hv : bootBuiltins x = some (.builtin id) := by decide +kernel) (hg : Gl X x := by rfl) (hn : x ≠ "__name__" := by decide) (hdb : (x == ("__debug__" : Str)) = false := by decide)
    (he : starEach (e :: es) X.env = (false, eval e X.env) :: starEach es X.env := by rfl) (hpl : (backTo pos (starEach es X.env)).any (·.1) = false := by rfl) : PX X T W (.Call (.Name x p) (e :: es) [] pos) (dB' g t) :=
  pe_imp (pe_callB hc hg hm hv ha hn hdb he hpl) fun _ _ _ h => tCB_of h
theorem px_callTy {Ty : String} (hc : CallX X T (.type Ty) g) (hm : X.mg x = none) (ha : PAX X T W (e :: es) t) (hv : bootBuiltins x = some (.type Ty) := by decide +kernel) (hg : Gl X x := by rfl) (hn : x ≠ "__name__" := by decide) (hdb : (x == ("__debug__" : Str)) = false := by decide)
    (he : starEach (e :: es) X.env = (false, eval e X.env) :: starEach es X.env := by rfl) (hpl : (backTo pos (starEach es X.env)).any (·.1) = false := by rfl) : PX X T W (.Call (.Name x p) (e :: es) [] pos) (dB' g t) :=
  pe_imp (pe_callTy hc hg hm hv ha hn hdb he hpl) fun _ _ _ h => tCB_of h
end

/-! ### the built-in functions -/
/-- the entries of a dict; true: its keys are tuples -/
def dctD (x : D) (st : DSto) : Option (Bool × List (D × D)) := match x with
  | .dct t kvs => some (t, kvs)
  | .ref n => match st[n]? with
    | some (.dct t kvs) => some (t, kvs)
    | _ => none
  | _ => none
def lenS : OpL := fun ds st => match ds with
  | [.str s] => if s.length ≤ sizeLine then some (.int s.length, st) else none
  | [x] => (itemsD x st).map fun xs => (.int xs.length, st)
  | _ => none
def intO : OpL := fun ds st => match ds with
  | [.int i] => some (.int i, st)
  | [.bl b] => some (.int (if b then 1 else 0), st)
  | _ => none
def intsD : List D → Option (List Int)
  | [] => some []
  | .int i :: r => (intsD r).map (i :: ·)
  | _ => none
def blsD : List D → Option (List Bool)
  | [] => some []
  | .bl i :: r => (blsD r).map (i :: ·)
  | _ => none
def sumO : OpL := fun ds st => match ds with
  | [x] => (lstD x st).bind fun xs => (intsD xs).map fun ns => (.int ns.sum, st)
  | _ => none
def allO : OpL := fun ds st => match ds with
  | [x] => (lstD x st).bind fun xs => (blsD xs).map fun ns => (.bl (ns.all id), st)
  | _ => none
def anyO : OpL := fun ds st => match ds with
  | [x] => (lstD x st).bind fun xs => (blsD xs).map fun ns => (.bl (ns.any id), st)
  | _ => none
/-- list(x), entering the store -/
def listR : OpL := fun ds st => match ds with
  | [x] => (itemsD x st).map fun xs => (.ref st.length, st ++ [.lst xs])
  | _ => none
def listO : OpL := fun ds st => match ds with
  | [x] => (itemsD x st).map fun xs => (.lst xs, st)
  | _ => none
def tupleO : OpL := fun ds st => match ds with
  | [x] => (itemsD x st).map fun xs => (.tup xs, st)
  | _ => none
def maxO : OpL := fun ds st => match ds with
  | [.int i, .int j] => some (.int (if j > i then j else i), st)
  | _ => none
def minO : OpL := fun ds st => match ds with
  | [.int i, .int j] => some (.int (if j < i then j else i), st)
  | _ => none
section
variable {X : Cx} {T : Tb} {M : Mu} {H : Hp} {st : DSto}
theorem rvs1 {d : D} {vs : List V} (r : RVs T M H [d] vs) : ∃ v, vs = [v] ∧ RV T M H d v := by
  simp only [RVs] at r
  obtain ⟨v, ws, rfl, r1, rfl⟩ := r
  exact ⟨v, rfl, r1⟩
theorem rvs2 {d e : D} {vs : List V} (r : RVs T M H [d, e] vs) : ∃ v w, vs = [v, w] ∧ RV T M H d v ∧ RV T M H e w := by
  simp only [RVs] at r
  obtain ⟨v, ws, rfl, r1, w, ws2, rfl, r2, rfl⟩ := r
  exact ⟨v, w, rfl, r1, r2⟩
theorem paired_len {α β : Type} {F : α → β → Prop} : ∀ {l : List α} {m : List β}, Paired F l m → m.length = l.length
  | _, _, .nil => rfl
  | _, _, .cons _ t => by simp [paired_len t]
theorem dctD_of {x : D} {t : Bool} {kvs : List (D × D)} {v : V} (s : SOk T M H st) (r : RV T M H x v) (q : dctD x st = some (t, kvs)) :
    ∃ a, v = .ref a ∧ ((t = false ∧ ∃ ks, H a = some (.dK ks) ∧ RK T M H kvs ks) ∨ t = true ∧ ∃ ks, H a = some (.ext (NdO T.P T.w a ks)) ∧ RN T M H kvs ks) := by
  unfold dctD at q
  cases x with
  | dct u ys =>
    cases q
    simp only [RV] at r
    obtain ⟨a, rfl, _, h⟩ := r
    exact ⟨a, rfl, h⟩
  | ref n =>
    simp only [RV] at r
    obtain ⟨a, rfl, e⟩ := r
    cases q1 : st[n]? with
    | none => simp only [q1] at q; cases q
    | some o =>
      cases o with
      | dct u ys =>
        simp only [q1] at q
        cases q
        exact ⟨a, rfl, s.ro n _ a q1 e⟩
      | _ => simp only [q1] at q; cases q
  | _ => cases q
theorem cx_lenS (hF : X.K = T.K) : CallX X T (.builtin "len") lenS := CallR.imp call_len fun vs H Q ⟨M, ds, st, s, r, h⟩ => by
  unfold lenS at h
  split at h
  · rename_i z
    obtain ⟨v, rfl, r1⟩ := rvs1 r
    simp only [RV] at r1; subst r1
    by_cases hz : z.length ≤ sizeLine
    · rw [if_pos hz] at h
      exact ⟨_, z.length, rfl, ⟨hz, rfl⟩, PostO.fin s (by simp [RV]) h⟩
    · rw [if_neg hz] at h; exact h.elim
  · rename_i x _
    obtain ⟨v, rfl, r1⟩ := rvs1 r
    cases q : itemsD x st with
    | some xs =>
      simp only [q, Option.map_some] at h
      obtain ⟨a, ws, rfl, rr, sq⟩ := items_of hF s r1 q
      exact ⟨_, xs.length, rfl, sq.imp (fun z => ⟨ws, z, rr.len.symm⟩) (fun z => ⟨ws, z, rr.len.symm⟩), PostO.fin s (by simp [RV]) h⟩
    | none => simp only [q] at h; exact h.elim
  · exact h.elim
theorem cx_int : CallX X T (.type "int") intO := CallR.imp call_int1 fun vs H Q ⟨M, ds, st, s, r, h⟩ => by
  unfold intO at h
  match ds, h with
  | [.int i], h =>
    obtain ⟨v, rfl, r1⟩ := rvs1 r
    simp only [RV] at r1; subst r1
    exact .inl ⟨i, rfl, PostO.fin s (by simp [RV]) h⟩
  | [.bl b], h =>
    obtain ⟨v, rfl, r1⟩ := rvs1 r
    simp only [RV] at r1; subst r1
    exact .inr ⟨b, rfl, PostO.fin s (by simp [RV]) h⟩
theorem intsD_ok : ∀ {xs : List D} {vs : List V} {ns : List Int}, intsD xs = some ns → RVs T M H xs vs → vs = ns.map V.int
  | [], vs, ns, h, r => by simp only [intsD, Option.some.injEq] at h; subst h; simpa [RVs] using r
  | .int i :: xs, vs, ns, h, r => by
    simp only [intsD, Option.map_eq_some_iff] at h
    obtain ⟨ms, h, rfl⟩ := h
    simp only [RVs, RV] at r
    obtain ⟨v, ws, rfl, rfl, r2⟩ := r
    rw [intsD_ok h r2]; rfl
theorem blsD_ok : ∀ {xs : List D} {vs : List V} {ns : List Bool}, blsD xs = some ns → RVs T M H xs vs → vs = ns.map V.bl
  | [], vs, ns, h, r => by simp only [blsD, Option.some.injEq] at h; subst h; simpa [RVs] using r
  | .bl i :: xs, vs, ns, h, r => by
    simp only [blsD, Option.map_eq_some_iff] at h
    obtain ⟨ms, h, rfl⟩ := h
    simp only [RVs, RV] at r
    obtain ⟨v, ws, rfl, rfl, r2⟩ := r
    rw [blsD_ok h r2]; rfl
theorem lst_of {n : Nat} {xs : List D} {v : V} (s : SOk T M H st) (r : RV T M H (.ref n) v) (q : st[n]? = some (.lst xs)) : ∃ a vs, v = .ref a ∧ M.l[n]? = some a ∧ H a = some (.lst vs) ∧ RVs T M H xs vs := by
  simp only [RV] at r
  obtain ⟨a, rfl, e⟩ := r
  obtain ⟨vs, e1, rr⟩ := s.ro n _ a q e
  exact ⟨a, vs, rfl, e, e1, rr⟩
theorem cx_sum (hc : X.calm = true) : CallX X T (.builtin "sum") sumO := CallR.imp (cr_sum hc) fun vs H Q ⟨M, ds, st, s, r, h⟩ => by
  unfold sumO at h
  match ds, h with
  | [x], h =>
    obtain ⟨v, rfl, r1⟩ := rvs1 r
    dsimp only at h
    cases q : lstD x st with
    | none => simp only [q] at h; exact h.elim
    | some xs =>
      simp only [q, Option.bind_some] at h
      obtain ⟨a, ws, rfl, e1, rr⟩ := lstD_of s r1 q
      cases q2 : intsD xs with
      | none => simp only [q2] at h; exact h.elim
      | some ns =>
        simp only [q2, Option.map_some] at h
        rw [intsD_ok q2 rr] at e1
        exact ⟨a, ns, rfl, SqL.of e1, PostO.fin s (by simp [RV]) h⟩
theorem cx_all (hc : X.calm = true) : CallX X T (.builtin "all") allO := CallR.imp (cr_all hc) fun vs H Q ⟨M, ds, st, s, r, h⟩ => by
  unfold allO at h
  match ds, h with
  | [x], h =>
    obtain ⟨v, rfl, r1⟩ := rvs1 r
    dsimp only at h
    cases q : lstD x st with
    | none => simp only [q] at h; exact h.elim
    | some xs =>
      simp only [q, Option.bind_some] at h
      obtain ⟨a, ws, rfl, e1, rr⟩ := lstD_of s r1 q
      cases q2 : blsD xs with
      | none => simp only [q2] at h; exact h.elim
      | some ns =>
        simp only [q2, Option.map_some] at h
        rw [blsD_ok q2 rr] at e1
        exact ⟨a, ns, rfl, SqL.of e1, PostO.fin s (by simp [RV]) h⟩
theorem cx_any (hc : X.calm = true) : CallX X T (.builtin "any") anyO := CallR.imp (cr_any hc) fun vs H Q ⟨M, ds, st, s, r, h⟩ => by
  unfold anyO at h
  match ds, h with
  | [x], h =>
    obtain ⟨v, rfl, r1⟩ := rvs1 r
    dsimp only at h
    cases q : lstD x st with
    | none => simp only [q] at h; exact h.elim
    | some xs =>
      simp only [q, Option.bind_some] at h
      obtain ⟨a, ws, rfl, e1, rr⟩ := lstD_of s r1 q
      cases q2 : blsD xs with
      | none => simp only [q2] at h; exact h.elim
      | some ns =>
        simp only [q2, Option.map_some] at h
        rw [blsD_ok q2 rr] at e1
        exact ⟨a, ns, rfl, SqL.of e1, PostO.fin s (by simp [RV]) h⟩
theorem cx_listR (hK : X.K = T.K) : CallX X T (.type "list") listR := CallR.imp call_list_of fun vs H Q ⟨M, ds, st, s, r, h⟩ => by
  unfold listR at h
  match ds, h with
  | [x], h =>
    obtain ⟨v, rfl, r1⟩ := rvs1 r
    dsimp only at h
    cases q : itemsD x st with
    | none => simp only [q] at h; exact h.elim
    | some xs =>
      simp only [q, Option.map_some] at h
      obtain ⟨a, ws, rfl, rr, sq⟩ := items_of hK s r1 q
      exact ⟨a, ws, rfl, sq, fun l hl => alloc_fin (d := .lst xs) s hl ⟨_, upd_same, rr.ex (ex_alloc s hl)⟩ h⟩
theorem cx_list (hK : X.K = T.K) : CallX X T (.type "list") listO := CallR.imp call_list_of fun vs H Q ⟨M, ds, st, s, r, h⟩ => by
  unfold listO at h
  match ds, h with
  | [x], h =>
    obtain ⟨v, rfl, r1⟩ := rvs1 r
    dsimp only at h
    cases q : itemsD x st with
    | none => simp only [q] at h; exact h.elim
    | some xs =>
      simp only [q, Option.map_some] at h
      obtain ⟨a, ws, rfl, rr, sq⟩ := items_of hK s r1 q
      exact ⟨a, ws, rfl, sq, fun l hl => lst_fin s hl rr h⟩
theorem cx_tuple (hK : X.K = T.K) : CallX X T (.type "tuple") tupleO := CallR.imp call_tuple_of fun vs H Q ⟨M, ds, st, s, r, h⟩ => by
  unfold tupleO at h
  match ds, h with
  | [x], h =>
    obtain ⟨v, rfl, r1⟩ := rvs1 r
    dsimp only at h
    cases q : itemsD x st with
    | none => simp only [q] at h; exact h.elim
    | some xs =>
      simp only [q, Option.map_some] at h
      have lst : ∀ a ws, v = .ref a → RVs T M H xs ws → SqL X.K H a ws → _ := fun a ws ea rr sq => (⟨a, ws, by rw [ea], .inl ⟨sq, fun l hl => by
        obtain ⟨a1, a2, a3⟩ := upd_tup_ok s rr hl
        exact h _ _ _ a1 a2 a3⟩⟩ : ∃ a ws, [v] = [V.ref a] ∧ ((SqL X.K H a ws ∧ ∀ l, H l = none → Q (.ref l) (upd H l (.tup ws))) ∨ (SqT X.K H a ws ∧ Q (.ref a) H)))
      cases x with
      | tup ys =>
        cases (show some ys = some xs from q)
        have r2 := r1
        simp only [RV] at r1
        obtain ⟨a, ws, rfl, _, e, rr⟩ := r1
        exact ⟨a, ws, rfl, .inr ⟨SqT.of e, PostO.fin s r2 h⟩⟩
      | lst ys =>
        cases (show some ys = some xs from q)
        simp only [RV] at r1
        obtain ⟨a, ws, ea, _, e, rr⟩ := r1
        exact lst a ws ea rr (SqL.of e)
      | ref n =>
        unfold itemsD at q
        cases q1 : st[n]? with
        | none => simp only [q1] at q; cases q
        | some o =>
          cases o with
          | lst ys =>
            simp only [q1] at q
            cases q
            obtain ⟨a, ws, ea, e, e1, rr⟩ := lst_of s r1 q1
            exact lst a ws ea rr (SqL.of e1)
          | _ => simp only [q1] at q; cases q
      | scr ns =>
        cases (show some (ns.map D.int) = some xs from q)
        simp only [RV] at r1
        obtain ⟨a, ea, e⟩ := r1
        exact lst a _ ea (rvs_ints ns) (by rw [hK]; exact sqL_scr (M := M) e)
      | _ => cases q
theorem cx_max (hc : X.calm = true) : CallX X T (.builtin "max") maxO := CallR.imp (call_max2 hc) fun vs H Q ⟨M, ds, st, s, r, h⟩ => by
  unfold maxO at h
  match ds, h with
  | [.int i, .int j], h =>
    obtain ⟨v, w, rfl, r1, r2⟩ := rvs2 r
    simp only [RV] at r1 r2; subst r1 r2
    exact ⟨i, j, rfl, PostO.fin s (by simp [RV]) h⟩
theorem cx_min (hc : X.calm = true) : CallX X T (.builtin "min") minO := CallR.imp (call_min2 hc) fun vs H Q ⟨M, ds, st, s, r, h⟩ => by
  unfold minO at h
  match ds, h with
  | [.int i, .int j], h =>
    obtain ⟨v, w, rfl, r1, r2⟩ := rvs2 r
    simp only [RV] at r1 r2; subst r1 r2
    exact ⟨i, j, rfl, PostO.fin s (by simp [RV]) h⟩
end

/-! ### subscripts, slices, stores -/
def ixS : OpD := fun x y st => match y with
  | .int i => match x with
    | .str z => if z.length ≤ sizeLine then (atI z.cps.toList i).map fun c => (.str ⟨#[c]⟩, st) else none
    | _ => (itemsD x st).bind fun xs => (atI xs i).map fun v => (v, st)
  | _ => none
section
variable {X : Cx} {T : Tb} {W : WX} {M : Mu} {H : Hp} {st : DSto} {a b : Expr} {da db : Den} {pos : Pos}
theorem atI_rvs {xs : List D} {vs : List V} {i : Int} {d : D} (r : RVs T M H xs vs) (h : atI xs i = some d) : ∃ v, atI vs i = some v ∧ RV T M H d v := by
  unfold atI at h ⊢
  rw [r.len]
  cases q : ixN xs.length i with
  | none => rw [q] at h; cases h
  | some j =>
    rw [q] at h
    exact r.get h
theorem ixx (hK : X.K = T.K) : IxR X (rD T ixS) := fun value slice pins s σ H x y v u Q I rx ry ⟨M, d, e, st, so, r1, r2, h⟩ hs => by
  refine ix_seq value slice pins s σ H x y v u Q I rx ry ?_ hs
  unfold ixS at h
  cases e with
  | int i =>
    simp only [RV] at r2; subst r2
    have seq : ∀ {xs : List D} {dd : D}, itemsD d st = some xs → (∀ z, d ≠ .str z) → PostO T M H ((atI xs i).map fun v => (v, st)) Q → rIx X.K x (.int i) H Q := fun {xs dd} q hn h => by
      obtain ⟨p, ws, rfl, rr, sq⟩ := items_of hK so r1 q
      cases q2 : atI xs i with
      | none => rw [q2] at h; exact h.elim
      | some z =>
        rw [q2] at h
        obtain ⟨w, e1, r3⟩ := atI_rvs rr q2
        rcases sq with sq | sq
        · exact .inl ⟨p, ws, i, w, rfl, rfl, sq, e1, PostO.fin so r3 h⟩
        · exact .inr (.inl ⟨p, ws, i, w, rfl, rfl, sq, e1, PostO.fin so r3 h⟩)
    cases d with
    | str z =>
      dsimp only at h
      by_cases hz : z.length ≤ sizeLine
      · rw [if_pos hz] at h
        simp only [RV] at r1; subst r1
        cases q : atI z.cps.toList i with
        | none => rw [q] at h; exact h.elim
        | some c =>
          rw [q] at h
          exact .inr (.inr ⟨z, i, c, rfl, rfl, hz, q, PostO.fin so (by simp [RV]) h⟩)
      · rw [if_neg hz] at h; exact h.elim
    | tup xs => exact seq (dd := .non) rfl (fun _ => by simp) h
    | lst xs => exact seq (dd := .non) rfl (fun _ => by simp) h
    | dct t xs => exact h.elim
    | ins c xs => exact h.elim
    | exv c xs => exact h.elim
    | ref n =>
      cases q : itemsD (.ref n) st with
      | none => simp only [q] at h; exact h.elim
      | some xs => simp only [q] at h; exact seq (dd := .non) q (fun _ => by simp) h
    | scr ns => exact seq (dd := .non) rfl (fun _ => by simp) h
    | non => exact h.elim
    | bl b => exact h.elim
    | int b => exact h.elim
  | _ => exact h.elim
/-- a part of a slice -/
def dPart (d : Option Den) : DEnv → DSto → DRes (Option Int) := fun ρ st => match d with
  | none => .ok none st
  | some d => (d ρ st).bind fun x st => match x with
    | .int i => .ok (some i) st
    | _ => .bad
def tPt (T : Tb) (W : WX) (d : Option Den) : TO := fun σ H Q => ∃ M ρ st, SOk T M H st ∧ EOk T M H ρ σ ∧ Post T (fun _ _ a b => a = b) W σ M H (dPart d ρ st) Q
theorem po_imp {e : Option Expr} {t t' : TO} (h : PO X e t) (f : ∀ σ H Q, t' σ H Q → t σ H Q) : PO X e t' := ⟨fun pins s σ H Q I q => h.run pins s σ H Q I (f σ H Q q)⟩
theorem pox_none : PO X none (tPt T W none) := po_imp po_none fun σ H Q ⟨M, ρ, st, s, eo, h⟩ => h M none H s .refl rfl
theorem pox_some {e : Expr} {d : Den} (h : PX X T W e d) : PO X (some e) (tPt T W (some d)) := po_imp (po_some h) fun σ H Q ⟨M, ρ, st, s, eo, h⟩ =>
  ⟨M, ρ, st, s, eo, (Post.bind (R := RV T) h).mono fun v H1 ⟨M1, x, st1, s1, x1, r1, h1⟩ => by
    cases x with
    | int i => simp only [RV] at r1; exact ⟨i, r1, h1 M1 _ H1 s1 .refl rfl⟩
    | _ => exact h1.elim⟩
def cutD (xs : List D) (lo hi : Option Int) : List D := (xs.drop (HT.sIx xs.length 0 lo)).take (HT.sIx xs.length xs.length hi - HT.sIx xs.length 0 lo)
def slO (x : D) (lo hi : Option Int) (st : DSto) : Option (D × DSto) := match x with
  | .str z => if z.length ≤ sizeLine then some (.str (cutS z lo hi), st) else none
  | .tup xs => some (.tup (cutD xs lo hi), st)
  | .scr ns => some (.lst (cutD (ns.map D.int) lo hi), st)
  | x => (lstD x st).map fun xs => (.lst (cutD xs lo hi), st)
def dSl (d : Den) (lo hi : Option Den) : Den := fun ρ st => (d ρ st).bind fun x st => (dPart lo ρ st).bind fun l st => (dPart hi ρ st).bind fun h st => ofO (slO x l h st)
theorem cut_rvs {xs : List D} {vs : List V} (r : RVs T M H xs vs) (lo hi : Option Int) : RVs T M H (cutD xs lo hi) (cutV vs lo hi) := by
  unfold cutD cutV
  rw [r.len]
  exact (r.drop _).take _
theorem cut_whole {xs : List D} {lo hi : Option Int} (h : HT.sIx xs.length 0 lo = 0 ∧ HT.sIx xs.length xs.length hi = xs.length) : cutD xs lo hi = xs := by
  unfold cutD
  rw [h.1, h.2]
  simp
theorem px_slice {e : Expr} {lo hi : Option Expr} {p2 : Pos} {d : Den} {dl dh : Option Den} (hK : X.K = T.K) (he : PX X T W e d) (hl : PO X lo (tPt T W dl)) (hh : PO X hi (tPt T W dh)) : PX X T W (.Subscript e (.Slice lo hi none p2) pos) (dSl d dl dh) :=
  pe_imp (pe_slice (sl_list.or (sl_str.or sl_tupA)) he hl hh) fun σ H Q ⟨M, ρ, st, s, eo, h⟩ =>
    ⟨M, ρ, st, s, eo, (Post.bind (R := RV T) h).mono fun v H1 ⟨M1, x, st1, s1, x1, r1, h1⟩ =>
      ⟨M1, ρ, st1, s1, eo.ex x1, (Post.bind (R := fun _ _ a b => a = b) h1).mono fun l H2 ⟨M2, l', st2, s2, x2, e2, h2⟩ =>
        ⟨M2, ρ, st2, s2, (eo.ex x1).ex x2, (Post.bind (R := fun _ _ a b => a = b) h2).mono fun u H3 ⟨M3, u', st3, s3, x3, e3, h3⟩ => by
          subst e2 e3
          have r3 := (r1.ex x2).ex x3
          have h3 := PostO.of h3
          cases x with
          | str z =>
            simp only [slO] at h3
            by_cases hz : z.length ≤ sizeLine
            · rw [if_pos hz] at h3
              simp only [RV] at r3; subst r3
              exact .inr (.inl ⟨z, rfl, hz, PostO.fin s3 (by simp [RV]) h3⟩)
            · rw [if_neg hz] at h3; exact h3.elim
          | tup xs =>
            have r4 := r3
            simp only [RV] at r3
            obtain ⟨a, vs, rfl, _, e4, rr⟩ := r3
            refine .inr (.inr ⟨a, vs, rfl, SqT.of e4, fun hw => ?_, fun hw p hp => ?_⟩)
            · rw [rr.len] at hw
              simp only [slO, cut_whole hw] at h3
              exact PostO.fin s3 r4 h3
            · obtain ⟨a1, a2, a3⟩ := upd_tup_ok s3 (cut_rvs rr l' u') hp
              exact h3 _ _ _ a1 a2 a3
          | ref n =>
            cases q : lstD (.ref n) st3 with
            | none => simp only [slO, q] at h3; exact h3.elim
            | some xs =>
              simp only [slO, q, Option.map_some] at h3
              obtain ⟨a, vs, rfl, e5, rr⟩ := lstD_of s3 r3 q
              exact .inl ⟨a, vs, rfl, SqL.of e5, fun p hp => lst_fin s3 hp (cut_rvs rr l' u') h3⟩
          | lst zs =>
            cases q : lstD (.lst zs) st3 with
            | none => simp only [slO, q] at h3; exact h3.elim
            | some xs =>
              simp only [slO, q, Option.map_some] at h3
              obtain ⟨a, vs, rfl, e5, rr⟩ := lstD_of s3 r3 q
              exact .inl ⟨a, vs, rfl, SqL.of e5, fun p hp => lst_fin s3 hp (cut_rvs rr l' u') h3⟩
          | scr ns =>
            simp only [RV] at r3
            obtain ⟨a, rfl, e4⟩ := r3
            exact .inl ⟨a, _, rfl, by rw [hK]; exact sqL_scr (M := M3) e4, fun p hp => lst_fin s3 hp (cut_rvs (rvs_ints ns) l' u') h3⟩
          | _ => exact h3.elim⟩⟩⟩
def setLO : SetD := fun o i v st => match o, i with
  | .ref n, .int k => match st[n]? with
    | some (.lst xs) => (ixN xs.length k).map fun j => st.set n (.lst (xs.set j v))
    | _ => none
  | _, _ => none
theorem sx_lst : SetX X T setLO := pset_imp set_list fun o i v H Q ⟨M, od, id, d, st, s, r1, r2, r3, h⟩ => by
  unfold setLO at h
  cases od with
  | ref n =>
    cases id with
    | int k =>
      simp only [RV] at r2; subst r2
      dsimp only at h
      cases q : st[n]? with
      | none => simp only [q] at h; exact h.elim
      | some ob =>
        cases ob with
        | lst xs =>
          simp only [q] at h
          obtain ⟨a, vs, rfl, e, e1, rr⟩ := lst_of s r1 q
          cases q2 : ixN xs.length k with
          | none => simp only [q2] at h; exact h.elim
          | some j =>
            simp only [q2, Option.map_some] at h
            have x3 : Ex M H M (upd H a (.lst (vs.set j v))) := ex_write (List.mem_of_getElem? e)
            exact ⟨a, vs, k, j, rfl, rfl, e1, by rw [rr.len]; exact q2, h M _ (sok_write s e ⟨_, upd_same, (rr.set j r3).ex x3⟩) x3⟩
        | _ => simp only [q] at h; exact h.elim
    | _ => exact h.elim
  | _ => exact h.elim

/-! ### methods of built-in types -/
abbrev OpM := D → List D → DSto → Option (D × DSto)
/-- xs.append(e) -/
def dApp (o e : Den) : Den := fun ρ st => (o ρ st).bind fun x st => match x with
  | .ref n => match st[n]? with
    | some (.lst _) => (e ρ st).bind fun y st => match st[n]? with
      | some (.lst xs) => if xs.length < sizeLine then .ok .non (st.set n (.lst (xs ++ [y]))) else .bad
      | _ => .bad
    | _ => .bad
  | _ => .bad
theorem px_app {o e : Expr} {od ed : Den} {apos cpos : Pos} (ho : PX X T W o od) (he : PX X T W e ed) (hs : starEach [e] X.env = (false, eval e X.env) :: starEach [] X.env := by rfl)
    (hbase : attributeBase o "append" X.env (eval o X.env) = eval o X.env := by rfl)
    (hfew : ((backTo cpos (starEach [e] X.env)).all (fun x => !x.1) && (backToKw cpos (keywordEach [] X.env)).all (fun x => x.1.isSome) && decide ([e].length + ([] : List Keyword).length + (if ([] : List Keyword).isEmpty then 0 else 1) < 30)) = true := by rfl)
    (hline : (apos.endLine == cpos.line) = true := by rfl) (hplain : (backTo cpos (starEach [] X.env)).any (·.1) = false := by rfl) : PX X T W (.Call (.Attribute o "append" apos) [e] [] cpos) (dApp od ed) :=
  pe_imp (pe_bm PySem.F.plainAttrs_list PySem.F.slot_list_append PySem.F.type_list_append mt_append ho (pa_cons he pa_nil hs) hbase hfew hline hs hplain) fun σ H Q ⟨M, ρ, st, s, eo, h⟩ =>
    ⟨M, ρ, st, s, eo, (Post.bind (R := RV T) h).mono fun v H1 ⟨M1, x, st1, s1, x1, r1, h1⟩ => by
      cases x with
      | ref n =>
        dsimp only at h1
        cases q : st1[n]? with
        | none => simp only [q] at h1; exact h1.elim
        | some ob =>
          cases ob with
          | lst ys =>
            simp only [q] at h1
            obtain ⟨a, vs, rfl, e0, e1, rr⟩ := lst_of s1 r1 q
            refine ⟨.inl ⟨rfl, vs, SqL.of e1⟩, M1, ρ, st1, s1, eo.ex x1, (Post.bind (R := RV T) h1).mono fun w H2 ⟨M2, y, st2, s2, x2, r2, h2⟩ => ?_⟩
            cases q2 : st2[n]? with
            | none => simp only [q2] at h2; exact h2.elim
            | some ob2 =>
              cases ob2 with
              | lst xs =>
                simp only [q2] at h2
                by_cases hz : xs.length < sizeLine
                · rw [if_pos hz] at h2
                  obtain ⟨a', ws, ea, e3, e4, rr2⟩ := lst_of s2 (r1.ex x2) q2
                  cases ea
                  have x3 : Ex M2 H2 M2 (upd H2 a (.lst (ws ++ [w]))) := ex_write (List.mem_of_getElem? e3)
                  exact ⟨a, ws, w, rfl, rfl, e4, by rw [rr2.len]; exact hz, h2 M2 _ _ (sok_write s2 e3 ⟨_, upd_same, (rr2.app (RVs.one r2)).ex x3⟩) x3 (by simp [RV])⟩
                · rw [if_neg hz] at h2; exact h2.elim
              | _ => simp only [q2] at h2; exact h2.elim
          | _ => simp only [q] at h1; exact h1.elim
      | _ => exact h1.elim⟩
def strsD : List D → Option (List Str)
  | [] => some []
  | .str i :: r => (strsD r).map (i :: ·)
  | _ => none
theorem strsD_ok : ∀ {xs : List D} {vs : List V} {ns : List Str}, strsD xs = some ns → RVs T M H xs vs → vs = ns.map V.str
  | [], vs, ns, h, r => by simp only [strsD, Option.some.injEq] at h; subst h; simpa [RVs] using r
  | .str i :: xs, vs, ns, h, r => by
    simp only [strsD, Option.map_eq_some_iff] at h
    obtain ⟨ms, h, rfl⟩ := h
    simp only [RVs, RV] at r
    obtain ⟨v, ws, rfl, rfl, r2⟩ := r
    rw [strsD_ok h r2]; rfl
/-- sep.join(xs) -/
def joinO (x y : D) (st : DSto) : Option (D × DSto) := match x with
  | .str a => ((itemsD y st).bind strsD).bind fun ys => if (ys.map (·.length)).sum + ys.length * a.length ≤ 16777216 then some (.str (Txt.join a ys), st) else none
  | _ => none
def dJoin (o e : Den) : Den := fun ρ st => (o ρ st).bind fun x st => match x with
  | .str a => (e ρ st).bind fun y st => ofO (joinO (.str a) y st)
  | _ => .bad
theorem px_join {o e : Expr} {od ed : Den} {apos : Pos} (hK : X.K = T.K) (ho : PX X T W o od) (he : PX X T W e ed) (hs : starEach [e] X.env = [(false, eval e X.env)] := by rfl) (hbase : attributeBase o "join" X.env (eval o X.env) = eval o X.env := by rfl) (hline : (apos.endLine == pos.line) = true := by rfl) :
    PX X T W (.Call (.Attribute o "join" apos) [e] [] pos) (dJoin od ed) :=
  pe_imp (pe_join ho he hs hbase hline) fun σ H Q ⟨M, ρ, st, s, eo, h⟩ =>
    ⟨M, ρ, st, s, eo, (Post.bind (R := RV T) h).mono fun v H1 ⟨M1, x, st1, s1, x1, r1, h1⟩ => by
      cases x with
      | str a =>
        simp only [RV] at r1; subst r1
        refine ⟨⟨a, rfl⟩, M1, ρ, st1, s1, eo.ex x1, (Post.bind (R := RV T) h1).mono fun w H2 ⟨M2, y, st2, s2, x2, r2, h2⟩ => ?_⟩
        have h2 := PostO.of h2
        simp only [joinO] at h2
        cases q : itemsD y st2 with
        | none => simp only [q, Option.bind_none] at h2; exact h2.elim
        | some xs =>
          simp only [q, Option.bind_some] at h2
          cases q2 : strsD xs with
          | none => simp only [q2, Option.bind_none] at h2; exact h2.elim
          | some ys =>
            simp only [q2, Option.bind_some] at h2
            by_cases hz : (ys.map (·.length)).sum + ys.length * a.length ≤ 16777216
            · rw [if_pos hz] at h2
              obtain ⟨p, ws, rfl, rr, sq⟩ := items_of hK s2 r2 q
              rw [strsD_ok q2 rr] at sq
              exact ⟨a, p, ys, rfl, rfl, sq, hz, PostO.fin s2 (by simp [RV]) h2⟩
            · rw [if_neg hz] at h2; exact h2.elim
      | _ => exact h1.elim⟩

/-! ### isinstance -/
/-- what isinstance asks of a class -/
structure ClsI (K : PySem.W.Frag) (C : Addr) : Prop where
  ha : PySem.W.findIn K (.ref C) "__class__" = some (some (.builtin "object.__class__"))
  hn : PySem.W.specialIn K (.builtin "object.__class__") "__get__" = some (some (.builtin "getset_descriptor.__get__"))
  htk : PySem.W.takesIn K (.builtin "object.__class__") = some true
  hm : PySem.W.mroIn K C (.type "object") = some true
def tyName (x : D) (st : DSto) : Option String := match x with
  | .non => some "NoneType"
  | .bl _ => some "bool"
  | .int _ => some "int"
  | .str _ => some "str"
  | .tup _ => some "tuple"
  | .lst _ => some "list"
  | .ref n => match st[n]? with
    | some (.lst _) => some "list"
    | _ => none
  | _ => none
/-- isinstance(e, bool): of flat data, tuples, lists, dicts -/
def dIsTy (ty : String) (d : Den) : Den := fun ρ st => (d ρ st).bind fun x st => match tyName x st with
  | some a => match kitB a ty with
    | some b => .ok (.bl b) st
    | none => .bad
  | none => .bad
theorem ty_of {d : D} {v : V} {a : String} (s : SOk T M H st) (r : RV T M H d v) (h : tyName d st = some a) (K : PySem.W.Frag) : TyX K H v (.type a) := by
  cases d with
  | non => simp only [RV] at r; subst r; cases h; exact .base .non
  | bl b => simp only [RV] at r; subst r; cases h; exact .base (.bl b)
  | int b => simp only [RV] at r; subst r; cases h; exact .base (.int b)
  | str b => simp only [RV] at r; subst r; cases h; exact .base (.str b)
  | tup b => simp only [RV] at r; obtain ⟨a, vs, rfl, _, e, _⟩ := r; cases h; exact .base (.tup e)
  | lst b => simp only [RV] at r; obtain ⟨a, vs, rfl, _, e, _⟩ := r; cases h; exact .base (.lst e)
  | dct t b => cases h
  | ins c b => cases h
  | exv c b => cases h
  | ref n =>
    simp only [tyName] at h
    cases q : st[n]? with
    | none => rw [q] at h; cases h
    | some o =>
      rw [q] at h
      simp only [RV] at r
      obtain ⟨a, rfl, e⟩ := r
      have ro := s.ro n o a q e
      cases o with
      | lst xs => cases h; obtain ⟨vs, e1, _⟩ := ro; exact .base (.lst e1)
      | _ => cases h
  | scr ns => cases h
theorem px_isTy {e : Expr} {d : Den} {x : Str} {ty : String} {p p2 : Pos} (hm : X.mg "isinstance" = none) (hm2 : X.mg x = none) (he : PX X T W e d) (hv2 : bootBuiltins x = some (.type ty) := by decide +kernel) (hg2 : Gl X x := by rfl) (hn2 : x ≠ "__name__" := by decide) (hd2 : (x == ("__debug__" : Str)) = false := by decide)
    (hg : Gl X "isinstance" := by rfl) (hs : starEach [e, .Name x p2] X.env = (false, eval e X.env) :: starEach [.Name x p2] X.env := by rfl) (hs2 : starEach [.Name x p2] X.env = (false, eval (.Name x p2) X.env) :: starEach [] X.env := by rfl)
    (hpl : (backTo pos (starEach [.Name x p2] X.env)).any (·.1) = false := by rfl) : PX X T W (.Call (.Name "isinstance" p) [e, .Name x p2] [] pos) (dIsTy ty d) :=
  pe_imp (pe_callB call_isi hg hm (by decide +kernel) (pa_cons he (pa_cons (pe_bltn (v := .ty ty) hg2 hm2 hv2 rfl hn2 hd2) pa_nil hs2) hs) (by decide) (by decide) hs hpl) fun σ H Q ⟨M, ρ, st, s, eo, h⟩ =>
    ⟨M, ρ, st, s, eo, (Post.bind (R := RV T) h).mono fun v H1 ⟨M1, y, st1, s1, x1, r1, h1⟩ => by
      cases q : tyName y st1 with
      | none => simp only [q] at h1; exact h1.elim
      | some a =>
        simp only [q] at h1
        cases q2 : kitB a ty with
        | none => simp only [q2] at h1; exact h1.elim
        | some b =>
          simp only [q2] at h1
          exact ⟨v, .ty ty, .type a, .type ty, b, rfl, .ty ty, ty_of s1 r1 q _, kit_ty q2, h1 M1 _ H1 s1 .refl (by simp [RV])⟩⟩
/-- isinstance(e, C) of an instance of the class c -/
def dIsC (c : Nat) (b : Bool) (d : Den) : Den := fun ρ st => (d ρ st).bind fun x st => if isIns c x st = true then .ok (.bl b) st else .bad
theorem px_isC {e : Expr} {d : Den} {x : Str} {c : Nat} {C C2 : Addr} {b : Bool} {p p2 : Pos} (hF : Fits X T W) (hC : T.CT[c]? = some C) (hI : ClsI X.K C) (hkit : PySem.W.kitOne X.K (.ref C) (.ref C2) = some b) (hm : X.mg "isinstance" = none) (hm2 : X.mg x = some (.ref C2)) (he : PX X T W e d)
    (hg2 : Gl X x := by rfl) (hd2 : (x == ("__debug__" : Str)) = false := by decide)
    (hg : Gl X "isinstance" := by rfl) (hs : starEach [e, .Name x p2] X.env = (false, eval e X.env) :: starEach [.Name x p2] X.env := by rfl) (hs2 : starEach [.Name x p2] X.env = (false, eval (.Name x p2) X.env) :: starEach [] X.env := by rfl)
    (hpl : (backTo pos (starEach [.Name x p2] X.env)).any (·.1) = false := by rfl) : PX X T W (.Call (.Name "isinstance" p) [e, .Name x p2] [] pos) (dIsC c b d) :=
  pe_imp (pe_callB call_isi hg hm (by decide +kernel) (pa_cons he (pa_cons (pe_glob (v := .ref C2) hg2 hm2 rfl hd2) pa_nil hs2) hs) (by decide) (by decide) hs hpl) fun σ H Q ⟨M, ρ, st, s, eo, h⟩ =>
    ⟨M, ρ, st, s, eo, (Post.bind (R := RV T) h).mono fun v H1 ⟨M1, y, st1, s1, x1, r1, h1⟩ => by
      by_cases hi : isIns c y st1 = true
      · rw [if_pos hi] at h1
        obtain ⟨fs, q⟩ := isIns_of hi
        obtain ⟨a, C', dx, vs, rfl, g2, g3, g4, g5⟩ := ins_of s1 r1 q
        rw [hC] at g2; cases g2
        rw [← hF.K] at g3
        exact ⟨_, .ref C2, .ref C, .ref C2, b, rfl, .own C2, .base (.ins g4 g3 hI.ha hI.hn hI.htk hI.hm), hkit, h1 M1 _ H1 s1 .refl (by simp [RV])⟩
      · rw [if_neg hi] at h1; exact h1.elim⟩
end
end FV

set_option Elab.async false
set_option linter.all false
set_option maxRecDepth 100000
set_option maxHeartbeats 4000000
namespace FV
open PySem PySem.Spec PyProof.Rows L2

def ofR : DRes D → Option (D × DSto)
  | .ok d st => some (d, st)
  | _ => none
section
variable {X : Cx} {T : Tb} {M : Mu} {H : Hp} {st : DSto} {k : Nat} {f C : Addr} {G : FnD} {pins : List (Addr × Obj)} {σ : L2.St} {s : Shared}
/-- a def of one's own run inside an operator: it raises nothing -/
theorem run_own {A : Around} {Q : VK} {E' : Value → Shared → Prop} {us : List Value} {vs : List V} {ds : List D} (F : FnR X.prog X.w X.K X.mg X.base (L2.CX X.prog X.w) k f (spR T G)) (hr : Room k A) (hA : A.frames = X.A.frames) (I : Inv X pins σ H s) (r : Vals vs us)
    (so : SOk T M H st) (rv : RVs T M H ds vs) (h : PostO T M H (ofR (G ds st)) Q) : wpAny (model X.prog X.w) A (call (.ref f) us) (EP X pins σ Q) E' s := by
  have e0 : Env0 X.prog X.w X.K X.mg X.base A X.stack s H := ⟨hA.trans I.ok.frames, I.ok.mod, I.bs, Nat.le_trans I.ok.bsz I.sz, I.stack, I.stkFree, I.hok, I.bare⟩
  have hsp : spR T G vs H Q E0 := by
    refine ⟨M, ds, st, so, rv, ?_⟩
    revert h
    generalize G ds st = R
    intro h
    cases R with
    | ok d st' => exact h
    | exc c fs st' => exact h.elim
    | bad => exact h.elim
  refine wpAny_call (codeAny_mono (F A X.stack s H us vs Q E0 hr e0 r hsp) fun r s' hq => ?_)
  cases r with
  | error e =>
    obtain ⟨_, _, _, _, _, _, _, _, _, _, _, _, z⟩ := hq
    exact z.elim
  | ok fl =>
    cases fl with
    | ret u => exact I.after hq
    | next => exact False.elim hq
    | brk => exact False.elim hq
    | cont => exact False.elim hq
/-- an instance of the store, for OpenK's rules -/
theorem inst_of {a dx : Addr} {vs : List (Str × V)} (I : Inv X pins σ H s) (e : H a = some (.ins C dx vs)) : ∃ od, PySem.W.InstAt s.heap a (PySem.W.instObj C dx) C (some od) := by
  obtain ⟨mA, O, _⟩ := ins_get I.hok e
  obtain ⟨od, J, _⟩ := O.look
  exact ⟨od, J⟩
def own2 (c : Nat) (G : FnD) : OpD := fun x y st => if isIns c x st = true ∧ isIns c y st = true then ofR (G [x, y] st) else none
/-- a (op) b by the class's own method, both of the class c -/
theorem ox_own2 {c : Nat} {op : Operator} {m : Str} (hK : X.K = T.K) (hC : T.CT[c]? = some C) (hm : Meth X.K C m f) (hd : PySem.dunder op.info.2 = m) (hc : PySem.W.selfFirst X.K C = true)
    (F : FnR X.prog X.w X.K X.mg X.base (L2.CX X.prog X.w) k f (spR T G)) (hr : Room k X.A) : OpX X T (binaryOp op) (own2 c G) := fun pins s σ H x y v u Q I rx ry ⟨M, d, e, st, so, r1, r2, h⟩ => by
  unfold own2 at h
  by_cases hi : isIns c d st = true ∧ isIns c e st = true
  · rw [if_pos hi] at h
    obtain ⟨fs1, q1⟩ := isIns_of hi.1
    obtain ⟨fs2, q2⟩ := isIns_of hi.2
    obtain ⟨a, C1, dx1, vs1, rfl, g2, g3, g4, g5⟩ := ins_of so r1 q1
    obtain ⟨b, C2, dx2, vs2, rfl, k2, k3, k4, k5⟩ := ins_of so r2 q2
    rw [hC] at g2 k2; cases g2; cases k2
    obtain rfl : v = Value.ref a := rx
    obtain rfl : u = Value.ref b := ry
    obtain ⟨od1, J1⟩ := inst_of I g4
    obtain ⟨od2, J2⟩ := inst_of I k4
    obtain ⟨mm, Fr0⟩ := I.fr
    subst hd
    refine PySem.W.binop_K Fr0 I.mod.kin J1 J2.type hc hm.at_ hm.fn ?_
    refine thn (run_own (us := [.ref a, .ref b]) (vs := [.ref a, .ref b]) (ds := [d, e]) F hr rfl I (.cons rfl (.cons rfl .nil)) so (by simp only [RVs]; exact ⟨_, _, rfl, r1, _, _, rfl, r2, rfl⟩) h) fun r s' hh => ?_
    obtain ⟨z, H', I', rz, q⟩ := hh
    exact SlX.cmpback rz ⟨z, H', I', rz, q⟩
  · rw [if_neg hi] at h; exact h.elim
/-- .. a comparison -/
theorem ox_ownC {c : Nat} {op : CmpOp} {m : Str} (hK : X.K = T.K) (hC : T.CT[c]? = some C) (hm : Meth X.K C m f) (hd : (cmpInfo op).2.1 = m) (hn : PySem.W.notFirst X.K C (.ref C) = true) (hof : ∀ {M : Model} {A : Around} {E : Value → Shared → Prop} {s : Shared} {a b : Value} {Q : Value → Shared → Prop}, wpAny M A (richCompare op a b) Q E s → wpAny M A (compareOp op a b) Q E s)
    (F : FnR X.prog X.w X.K X.mg X.base (L2.CX X.prog X.w) k f (spR T G)) (hr : Room k X.A) : OpX X T (compareOp op) (own2 c G) := fun pins s σ H x y v u Q I rx ry ⟨M, d, e, st, so, r1, r2, h⟩ => by
  unfold own2 at h
  by_cases hi : isIns c d st = true ∧ isIns c e st = true
  · rw [if_pos hi] at h
    obtain ⟨fs1, q1⟩ := isIns_of hi.1
    obtain ⟨fs2, q2⟩ := isIns_of hi.2
    obtain ⟨a, C1, dx1, vs1, rfl, g2, g3, g4, g5⟩ := ins_of so r1 q1
    obtain ⟨b, C2, dx2, vs2, rfl, k2, k3, k4, k5⟩ := ins_of so r2 q2
    rw [hC] at g2 k2; cases g2; cases k2
    obtain rfl : v = Value.ref a := rx
    obtain rfl : u = Value.ref b := ry
    obtain ⟨od1, J1⟩ := inst_of I g4
    obtain ⟨od2, J2⟩ := inst_of I k4
    obtain ⟨mm, Fr0⟩ := I.fr
    subst hd
    refine hof (PySem.W.cmp_K hr.units0 Fr0 I.mod.kin J1 J2.type hn hm.at_ hm.fn ?_)
    refine thn (run_own (us := [.ref a, .ref b]) (vs := [.ref a, .ref b]) (ds := [d, e]) F hr rfl I (.cons rfl (.cons rfl .nil)) so (by simp only [RVs]; exact ⟨_, _, rfl, r1, _, _, rfl, r2, rfl⟩) h) fun r s' hh => ?_
    obtain ⟨z, H', I', rz, q⟩ := hh
    exact SlX.cmpback rz ⟨z, H', I', rz, q⟩
  · rw [if_neg hi] at h; exact h.elim
/-- a (op) n, n an int -/
def ownI (c : Nat) (G : FnD) : OpD := fun x y st => match y with
  | .int _ => if isIns c x st = true then ofR (G [x, y] st) else none
  | _ => none
theorem ox_ownI {c : Nat} {op : Operator} {m : Str} {fo ro rc : Option Value} (hK : X.K = T.K) (hC : T.CT[c]? = some C) (hm : Meth X.K C m f) (hd : PySem.dunder op.info.2 = m) (hc : PySem.W.selfFirst X.K C = true)
    (hr1 : PySem.W.findIn X.K (.ref C) (dunderR op.info.2) = some rc) (hp : rc = none ∨ ∃ g : Addr, rc = some (.ref g)) (h1 : PySem.W.findIn X.K (.type "int") (PySem.dunder op.info.2) = some fo) (h2 : PySem.W.findIn X.K (.type "int") (dunderR op.info.2) = some ro) (hsub : PySem.W.subIn X.K (.type "int") (.ref C) = some false)
    (F : FnR X.prog X.w X.K X.mg X.base (L2.CX X.prog X.w) k f (spR T G)) (hr : Room k X.A) : OpX X T (binaryOp op) (ownI c G) := fun pins s σ H x y v u Q I rx ry ⟨M, d, e, st, so, r1, r2, h⟩ => by
  unfold ownI at h
  cases e with
  | int j =>
    dsimp only at h
    by_cases hi : isIns c d st = true
    · rw [if_pos hi] at h
      obtain ⟨fs1, q1⟩ := isIns_of hi
      obtain ⟨a, C1, dx1, vs1, rfl, g2, g3, g4, g5⟩ := ins_of so r1 q1
      rw [hC] at g2; cases g2
      obtain rfl : v = Value.ref a := rx
      have r2' := r2
      simp only [RV] at r2'
      subst r2'
      obtain ⟨t, rfl⟩ := id ry
      obtain ⟨od1, J1⟩ := inst_of I g4
      obtain ⟨mm, Fr0⟩ := I.fr
      subst hd
      refine PySem.W.ksp_binT (T := "int") Fr0 I.mod.kin J1 rfl hc hm.at_ hm.fn hr1 hp h1 h2 hsub ?_
      refine thn (run_own (us := [.ref a, .int j t]) (vs := [.ref a, .int j]) (ds := [d, .int j]) F hr rfl I (.cons rfl (.cons ⟨t, rfl⟩ .nil)) so (by simp only [RVs]; exact ⟨_, _, rfl, r1, _, _, rfl, r2, rfl⟩) h) fun r s' hh => ?_
      obtain ⟨z, H', I', rz, q⟩ := hh
      exact SlX.cmpback rz ⟨z, H', I', rz, q⟩
    · rw [if_neg hi] at h; exact h.elim
  | _ => exact h.elim
/-- own first, else the base -/
def orO (c : Nat) (own base : OpD) : OpD := fun x y st => if isIns c x st = true then own x y st else base x y st
theorem ox_or {c : Nat} {F : Value → Value → Sem Value} {own base : OpD} (h1 : OpX X T F own) (h2 : OpX X T F base) : OpX X T F (orO c own base) := fun pins s σ H x y v u Q I rx ry ⟨M, d, e, st, so, r1, r2, h⟩ => by
  unfold orO at h
  by_cases hi : isIns c d st = true
  · rw [if_pos hi] at h; exact h1 pins s σ H x y v u Q I rx ry ⟨M, d, e, st, so, r1, r2, h⟩
  · rw [if_neg hi] at h; exact h2 pins s σ H x y v u Q I rx ry ⟨M, d, e, st, so, r1, r2, h⟩
/-- .. by the right operand -/
def orR (c : Nat) (own base : OpD) : OpD := fun x y st => if isIns c y st = true then own x y st else base x y st
theorem ox_orR {c : Nat} {F : Value → Value → Sem Value} {own base : OpD} (h1 : OpX X T F own) (h2 : OpX X T F base) : OpX X T F (orR c own base) := fun pins s σ H x y v u Q I rx ry ⟨M, d, e, st, so, r1, r2, h⟩ => by
  unfold orR at h
  by_cases hi : isIns c e st = true
  · rw [if_pos hi] at h; exact h1 pins s σ H x y v u Q I rx ry ⟨M, d, e, st, so, r1, r2, h⟩
  · rw [if_neg hi] at h; exact h2 pins s σ H x y v u Q I rx ry ⟨M, d, e, st, so, r1, r2, h⟩
/-- x in o, o of the class c: a bool comes back -/
def ownIn (c : Nat) (G : FnD) : OpD := fun x y st => if isIns c y st = true then (match ofR (G [y, x] st) with
  | some (.bl b, st') => some (.bl b, st')
  | _ => none) else none
theorem ox_ownIn {c : Nat} (hK : X.K = T.K) (hC : T.CT[c]? = some C) (hm : Meth X.K C "__contains__" f) (F : FnR X.prog X.w X.K X.mg X.base (L2.CX X.prog X.w) k f (spR T G)) (hr : Room k X.A) : OpX X T (compareOp .In) (ownIn c G) := fun pins s σ H x y v u Q I rx ry ⟨M, d, e, st, so, r1, r2, h⟩ => by
  unfold ownIn at h
  by_cases hi : isIns c e st = true
  · rw [if_pos hi] at h
    obtain ⟨fs1, q1⟩ := isIns_of hi
    obtain ⟨a, C1, dx1, vs1, rfl, g2, g3, g4, g5⟩ := ins_of so r2 q1
    rw [hC] at g2; cases g2
    obtain rfl : u = Value.ref a := ry
    obtain ⟨od1, J1⟩ := inst_of I g4
    obtain ⟨mm, Fr0⟩ := I.fr
    refine PySem.W.in_K Fr0 I.mod.kin J1 hm.at_ hm.fn ?_
    have h' : PostO T M H (ofR (G [e, d] st)) (fun z H' => ∃ b, z = .bl b ∧ Q (.bl b) H') := by
      revert h
      generalize G [e, d] st = R
      intro h
      cases R with
      | ok z st' =>
        cases z with
        | bl b => exact fun M' v H' s x r => by simp only [RV] at r; exact ⟨b, r, h M' _ H' s x (by simp [RV])⟩
        | _ => exact h.elim
      | exc c fs st' => exact h.elim
      | bad => exact h.elim
    refine thn (run_own (us := [.ref a, v]) (vs := [.ref a, x]) (ds := [e, d]) F hr rfl I (.cons rfl (.cons rx .nil)) so (by simp only [RVs]; exact ⟨_, _, rfl, r2, _, _, rfl, r1, rfl⟩) h') fun r s' hh => ?_
    obtain ⟨z, H', I', rz, b, rfl, q⟩ := hh
    obtain rfl : r = Value.bool b := rz
    exact wpAny_truthy_bool ⟨.bl b, H', I', rfl, q⟩
  · rw [if_neg hi] at h; exact h.elim
/-- len(o) -/
def ownLen (c : Nat) (G : FnD) : OpL := fun ds st => match ds with
  | [x] => if isIns c x st = true then (match ofR (G [x] st) with
    | some (.int n, st') => if 0 ≤ n ∧ n < 2 ^ 63 then some (.int n, st') else none
    | _ => none) else none
  | _ => none
theorem cx_ownLen {c : Nat} (hK : X.K = T.K) (hC : T.CT[c]? = some C) (hm : Meth X.K C "__len__" f) (F : FnR X.prog X.w X.K X.mg X.base (L2.CX X.prog X.w) k f (spR T G)) (hr : Room (k + 1) X.A) : CallX X T (.builtin "len") (ownLen c G) := fun pins s σ H xs us Q I r ⟨M, ds, st, so, rv, h⟩ => by
  unfold ownLen at h
  match ds, h with
  | [d], h =>
    obtain ⟨y, rfl, r1⟩ := rvs1 rv
    dsimp only at h
    by_cases hi : isIns c d st = true
    · rw [if_pos hi] at h
      obtain ⟨fs1, q1⟩ := isIns_of hi
      obtain ⟨a, C1, dx1, vs1, rfl, g2, g3, g4, g5⟩ := ins_of so r1 q1
      rw [hC] at g2; cases g2
      obtain ⟨u, rfl, ru⟩ := vals1 r
      obtain rfl : u = Value.ref a := ru
      obtain ⟨od1, J1⟩ := inst_of I g4
      obtain ⟨mm, Fr0⟩ := I.fr
      refine PySem.W.len_K Fr0 I.mod.kin J1 hm.at_ hm.fn ?_
      have h' : PostO T M H (ofR (G [d] st)) (fun z H' => ∃ n : Int, z = .int n ∧ (0 ≤ n ∧ n < 2 ^ 63) ∧ Q (.int n) H') := by
        revert h
        generalize G [d] st = R
        intro h
        cases R with
        | ok z st' =>
          cases z with
          | int n =>
            simp only [ofR] at h
            by_cases hz : 0 ≤ n ∧ n < 2 ^ 63
            · rw [if_pos hz] at h
              exact fun M' v H' s x r => by simp only [RV] at r; exact ⟨n, r, hz, h M' _ H' s x (by simp [RV])⟩
            · rw [if_neg hz] at h; exact h.elim
          | _ => exact h.elim
        | exc c fs st' => exact h.elim
        | bad => exact h.elim
      refine thn (run_own (A := X.A.in1) (us := [.ref a]) (vs := [.ref a]) (ds := [d]) F hr.in1 rfl I (.cons rfl .nil) so (RVs.one r1) h') fun r s' hh => ?_
      obtain ⟨z, H', I', rz, n, rfl, hz, q⟩ := hh
      obtain ⟨t, rfl⟩ := rz
      exact ⟨hz, .int n, H', I'.tok _, ⟨_, rfl⟩, q⟩
    · rw [if_neg hi] at h; exact h.elim
/-- str(o) -/
def ownStr (c : Nat) (G : FnD) : OpL := fun ds st => match ds with
  | [x] => if isIns c x st = true then (match ofR (G [x] st) with
    | some (.str n, st') => some (.str n, st')
    | _ => none) else none
  | _ => none
theorem cx_ownStr {c : Nat} (hK : X.K = T.K) (hC : T.CT[c]? = some C) (hm : Meth X.K C "__str__" f) (F : FnR X.prog X.w X.K X.mg X.base (L2.CX X.prog X.w) k f (spR T G)) (hr : Room (k + 2) X.A) : CallX X T (.type "str") (ownStr c G) := fun pins s σ H xs us Q I r ⟨M, ds, st, so, rv, h⟩ => by
  unfold ownStr at h
  match ds, h with
  | [d], h =>
    obtain ⟨y, rfl, r1⟩ := rvs1 rv
    dsimp only at h
    by_cases hi : isIns c d st = true
    · rw [if_pos hi] at h
      obtain ⟨fs1, q1⟩ := isIns_of hi
      obtain ⟨a, C1, dx1, vs1, rfl, g2, g3, g4, g5⟩ := ins_of so r1 q1
      rw [hC] at g2; cases g2
      obtain ⟨u, rfl, ru⟩ := vals1 r
      obtain rfl : u = Value.ref a := ru
      obtain ⟨od1, J1⟩ := inst_of I g4
      have hr2 : Room k X.A.in1.in1 := hr.in1.in1
      refine PySem.W.kso_call hr2.units0 I.kIn J1 hm.at_ hm.fn ?_
      have h' : PostO T M H (ofR (G [d] st)) (fun z H' => ∃ n : Str, z = .str n ∧ Q (.str n) H') := by
        revert h
        generalize G [d] st = R
        intro h
        cases R with
        | ok z st' =>
          cases z with
          | str n => exact fun M' v H' s x r => by simp only [RV] at r; exact ⟨n, r, h M' _ H' s x (by simp [RV])⟩
          | _ => exact h.elim
        | exc c fs st' => exact h.elim
        | bad => exact h.elim
      refine thn (run_own (A := X.A.in1.in1) (us := [.ref a]) (vs := [.ref a]) (ds := [d]) F hr2 rfl I (.cons rfl .nil) so (RVs.one r1) h') fun r s' hh => ?_
      obtain ⟨z, H', I', rz, n, rfl, q⟩ := hh
      obtain ⟨t, rfl⟩ := rz
      exact ⟨.str n, H', I', ⟨_, rfl⟩, q⟩
    · rw [if_neg hi] at h; exact h.elim
def orL (c : Nat) (own base : OpL) : OpL := fun ds st => match ds with
  | [x] => if isIns c x st = true then own ds st else base ds st
  | _ => base ds st
theorem cx_or {c : Nat} {f : Value} {own base : OpL} (h1 : CallX X T f own) (h2 : CallX X T f base) : CallX X T f (orL c own base) := fun pins s σ H xs us Q I r ⟨M, ds, st, so, rv, h⟩ => by
  unfold orL at h
  split at h
  · split at h
    · exact h1 pins s σ H xs us Q I r ⟨M, _, st, so, rv, h⟩
    · exact h2 pins s σ H xs us Q I r ⟨M, _, st, so, rv, h⟩
  · exact h2 pins s σ H xs us Q I r ⟨M, _, st, so, rv, h⟩
end
end FV

set_option Elab.async false
set_option linter.all false
set_option maxRecDepth 100000
set_option maxHeartbeats 4000000
namespace FV
open PySem PySem.Spec PyProof.Rows L2

/-- what a method that hands back iter(self.f) does, told of the state that it is called in -/
def IterFn (P : Program) (w : World) (K : PySem.W.Frag) (mg : Str → Option Value) (base : Heap) (k : Nat) (f C : Addr) (fld : Str) : Prop :=
  ∀ (A : Around) (outer : List Env) (s : Shared) (H : Hp) (a l dx : Addr) (vs : List (Str × V)) (zs : List V) (Q : VK), Room k A → Env0 P w K mg base A outer s H → H a = some (.ins C dx vs) → Cls K C → NoAttr K C fld →
    vs.lookup fld = some (.ref l) → SqL K H l zs → (∀ it, H it = none → s.heap.objs.size ≤ it → Q (.ref it) (upd H it (ItO l it 0))) →
    codeAny (model P w) A (.call (.ref f) ⟨[.ref a], []⟩) (CR CX0 outer P w H s Q E0) s
section
variable {P : Program} {w : World} {K : PySem.W.Frag} {mg : Str → Option Value} {base : Heap} {k : Nat} {f C : Addr} {fd : FuncData} {x qual fld : Str} {st : Stmt} {p1 p2 p3 p4 p5 : Pos}
theorem iterFn_of (F : Fun K x qual st f fd) (S : FnScope ["self"] ["self"] (defScope st)) (hb : Binds K fd ["self"] []) (hm : mg "iter" = none) (hg : (defScope st).names.lookup ("iter" : Str) = some .globalImplicit)
    (hbd : defBody st = [.Return (some (.Call (.Name "iter" p1) [.Attribute (.Name "self" p2) fld p3] [] p4)) p5]) : IterFn P w K mg base (k + 1) f C fld := by
  intro A outer s H a l dx vs zs Q hr e0 ha c na hl sq hq
  obtain ⟨oc, od, kV, doc, pm, an, cdv, ct, osl, rfl, lk, hcd⟩ := F.ex
  have KX : K.In s.heap := e0.mod.kin.keeps fun b o z => (e0.bs b o z).1
  have hpar := S.par "self" (List.Mem.head _)
  refine codeAny_call_function hr.depth (KX _ _ lk) rfl S.co S.gen rfl (PySem.W.codeRec_of KX hcd) (hb s [.ref a] KX rfl _ _ _ _ ?_)
  refine wpAny_newFunctionEnv_cells S.kind (fun y hy => ?_) fun env he s1 z => ?_
  · obtain rfl : y = (("self" : Str), Value.ref a) := by simpa using hy
    exact hpar.imp id fun q => ⟨q, PySem.W.cellsFrom_some _ _ _ (.inl q)⟩
  subst he
  refine ⟨(e0.mod.nolimit.keeps fun b o z => (e0.bs b o z).1).keeps z.toInCall.keep, codeAny_func ?_⟩
  have I : Inv (cxOf CX0 P w K mg base ["self"] qual (defScope st) f cdv A outer s H E0) [] (start ["self"] [.ref a]) H s1 := inv_start (vs := [.ref a]) (us := [.ref a]) S hr.hd e0 rfl (.cons rfl .nil) z
  have body : PSs (cxOf CX0 P w K mg base ["self"] qual (defScope st) f cdv A outer s H E0) (defBody st) (tRet (tCB (ItX.rIterN K s.heap.objs.size) (tCons (tFld K (tVar 0) fld) tNil))) := by
    rw [hbd]
    exact pss_one (ps_ret (pe_callB ItX.call_iterN hg hm (by decide +kernel) (pa_cons (pe_fld (pe_var (i := 0) rfl (hpar.imp id .inl)) rfl) pa_nil) (by decide) (by decide)))
  refine wpAny_mono (body.run [] s1 _ H { nx := fun _ H' => Q .non H', rt := Q } I ⟨.ref a, rfl, a, C, dx, vs, .ref l, rfl, ha, c, na, hl, l, zs, rfl, sq, hq⟩) (fun fl s' hs => ?_) fun e s' hs => hs
  have fin : ∀ {σ' : L2.St} {H' : Hp} {v : V} {u : Value}, Inv (cxOf CX0 P w K mg base ["self"] qual (defScope st) f cdv A outer s H E0) [] σ' H' s' → RelV v u → Q v H' → CE outer P w H s Q u s' := fun {σ' H' v u} J rv q => ⟨v, H', J.os, J.bare, J.base, J.hok, rv, q⟩
  cases fl with
  | ret u => obtain ⟨v, σ', H', J, rv, q⟩ := hs; exact fin J rv q
  | next => obtain ⟨σ', H', J, q⟩ := hs; exact fin (v := V.non) (u := Value.none) J rfl q
  | brk => obtain ⟨_, _, _, q⟩ := hs; exact q.elim
  | cont => obtain ⟨_, _, _, q⟩ := hs; exact q.elim
end
/-- a list that is walked: by value, or of the store -/
def iterL (x : D) (st : DSto) : Option (List D × Chk) := match x with
  | .lst xs => some (xs, [])
  | .ref m => match st[m]? with
    | some (.lst xs) => some (xs, [(m, .lst xs)])
    | _ => none
  | _ => none
theorem iterL_of {T : Tb} {M : Mu} {H : Hp} {st : DSto} {x : D} {p : List D × Chk} {v : V} (s : SOk T M H st) (r : RV T M H x v) (q : iterL x st = some p) : ∃ a zs, v = .ref a ∧ SqL T.K H a zs ∧ IterOk T M H p (Itl T.K a) := by
  unfold iterL at q
  cases x with
  | lst xs =>
    cases q
    simp only [RV] at r
    obtain ⟨a, vs, rfl, f, e1, rr⟩ := r
    exact ⟨a, vs, rfl, SqL.of e1, iterOk_lst fun M2 st2 H2 x2 s2 k2 => ⟨vs, rr.mo x2, SqL.of (x2.by_ _ _ e1 f).1⟩⟩
  | ref m =>
    cases q1 : st[m]? with
    | none => simp only [q1] at q; cases q
    | some o =>
      cases o with
      | lst xs =>
        simp only [q1] at q
        cases q
        obtain ⟨a, vs, rfl, em, e1, rr⟩ := lst_of s r q1
        exact ⟨a, vs, rfl, SqL.of e1, iterOk_lst fun M2 st2 H2 x2 s2 k2 => sqL_of (s2.ro m _ a (chk_one k2) (x2.get _ _ em))⟩
      | _ => simp only [q1] at q; cases q
  | _ => cases q
/-- an object whose __iter__ hands back iter(self.f), f a list -/
def dIOwn (c i : Nat) (d : Den) : DenI := fun ρ st => (d ρ st).bind fun x st => if isIns c x st = true then (match fldD i x st with
  | .ok y st => match iterL y st with
    | some p => .ok p st
    | none => .bad
  | _ => .bad) else .bad
section
variable {X : Cx} {T : Tb} {W : WX} {tg e : Expr} {d : Den} {k : Nat} {f C : Addr} {fld : Str}
theorem pix_own {c i : Nat} (hF : Fits X T W) (hC : T.CT[c]? = some C) (hn : T.FT[i]? = some fld) (hm : Meth X.K C "__iter__" f) (F : IterFn X.prog X.w X.K X.mg X.base k f C fld) (hr : Room k X.A) (h : PX X T W e d) : PIX X T W tg e (dIOwn c i d) := by
  refine ⟨fun pins s σ H R I ⟨M, ρ, st, so, eo, h0⟩ => ?_⟩
  refine thn (h.run pins s σ H _ I ⟨M, ρ, st, so, eo, Post.bind (R := RV T) h0⟩) fun v s1 ⟨y, H1, I1, ry, M1, x, st1, s1', x1, r1, h1⟩ => ?_
  by_cases hi : isIns c x st1 = true
  · rw [if_pos hi] at h1
    obtain ⟨fs, q⟩ := isIns_of hi
    obtain ⟨a, C1, dx, vs, rfl, g2, g3, g4, g5⟩ := ins_of s1' r1 q
    rw [hC] at g2; cases g2
    simp only [fldD, q] at h1
    cases qf : getN i fs with
    | none => simp only [qf] at h1; exact h1.elim
    | some z =>
      simp only [qf] at h1
      cases qm : iterL z st1 with
      | none => simp only [qm] at h1; exact h1.elim
      | some pp =>
            simp only [qm] at h1
            obtain ⟨w, l1, rw', na⟩ := fs_get g5 hn qf
            obtain ⟨l, zs, rfl, el, it0⟩ := iterL_of s1' rw' qm
            rw [← hF.K] at el
            rw [← hF.K] at g3 na
            obtain rfl : v = Value.ref a := ry
            obtain ⟨od1, J1⟩ := inst_of I1 g4
            obtain ⟨mm, Fr0⟩ := I1.fr
            refine PySem.W.owit_iter Fr0 I1.mod.kin J1 hm.at_ hm.fn ?_
            refine wpAny_call (codeAny_mono (F X.A X.stack s1 H1 a l dx vs zs (fun v H' => ∃ it, v = .ref it ∧ s1.heap.objs.size ≤ it ∧ H1 it = none ∧ H' = upd H1 it (ItO l it 0)) hr I1.env0 g4 g3 na l1 el fun it h1 h2 => ⟨it, rfl, h2, h1, rfl⟩) fun r s' hq => ?_)
            cases r with
            | error er => exact False.elim hq
            | ok fl =>
              cases fl with
              | ret u =>
                obtain ⟨v', H', I2, rv, it, rfl, hsz, hnone, rfl⟩ := I1.after hq
                obtain rfl : u = Value.ref it := rv
                have hit : (upd H1 it (ItO l it 0)) it = some (ItO l it 0) := upd_same
                have eo' := itO_get I2 hit
                have stt : s'.heap.IsListIter it l 0 := ⟨_, eo', rfl, rfl⟩
                show PySem.W.OwitIt _ _ _ _ _ _
                unfold PySem.W.OwitIt
                refine wpAny_specialOf (name := Str.ofString "__next__") (T := "list_iterator") ⟨_, eo', rfl⟩ slot_listiter_next.lookup ?_
                have hd := ItX.dropH_upd (o := ItO l it 0) hnone
                have I3 := ItX.inv_drop (φ := fun h => h.get? it = some (GNX.itObj l 0)) I2 hit
                have hf := ItX.inv_fp I2 hit (Nat.le_trans I1.sz hsz)
                rw [hd] at I3 hf
                refine ⟨it, [it], _, Itl X.K l, H1, rfl, I3, turn_list l it, stt, fun b hb => ?_, h1 M1 _ H1 s1' .refl ?_⟩
                · rw [List.mem_singleton.mp hb]; exact hf
                · rw [hF.K]; exact it0
              | next => exact False.elim hq
              | brk => exact False.elim hq
              | cont => exact False.elim hq
  · rw [if_neg hi] at h1; exact h1.elim
end
end FV

set_option Elab.async false
set_option linter.all false
set_option maxRecDepth 100000
set_option maxHeartbeats 4000000
namespace PySem.W
open PySem PySem.Calls PyProof.Rows Builtin
theorem fw_intmul {prog : Program} {w : World} {A : Around} {E : Value → Shared → Prop} {s : Shared} {n : Int} {t : Tok} {b C : Addr} {ox : Obj} {od : Option Obj} {Q : Value → Shared → Prop} (J : InstAt s.heap b ox C od) (hd : ox.data = .plain)
    (L : Looks (model prog w) s.heap (isSubtype (.ref C) (.type "int")) false) (h : Q .notImplemented s) : wpAny (model prog w) A (call (.builtin "int.__mul__") [.int n t, .ref b]) Q E s := by
  refine wpAny_call (codeAny_call_builtin F.slot_int_mul.plain F.entry_int_mul (F.slot_int_mul.check _ _ _ _ _ _ _ _ (typeIs_int s n t) (F.args_int_mul_2 _ _) ?_))
  have J0 := J
  have hat := J.at_
  have L1 : Looks (model prog w) s.heap (typeOf (.ref b)) (.ref C) := J.type
  obtain ⟨hp, g, d, tk, os⟩ := s
  dsimp only at hat L1 L
  unfold Builtin.«int.__mul__» Builtin.Int.intBinary
  repeat lk
  rw [hd]
  repeat lk
  exact h
theorem fw_refl {prog : Program} {w : World} {A : Around} {E : Value → Shared → Prop} {s : Shared} {K : Frag} {n : Int} {t : Tok} {b C f g2 : Addr} {ox : Obj} {od : Option Obj} {Q : Value → Shared → Prop} (X : K.In s.heap) (J : InstAt s.heap b ox C od) (hd : ox.data = .plain)
    (hc : selfFirst K C = true) (hm : findIn K (.ref C) (PySem.dunder "mul") = some (some (.ref g2))) (hs : findIn K (.ref C) (dunderR "mul") = some (some (.ref f))) (hf : isFn K (.ref f) = true) (hsub : subIn K (.ref C) (.type "int") = some false)
    (h : wpAny (model prog w) A (call (.ref f) [.ref b, .int n t]) (CmpBack Q) E s) : wpAny (model prog w) A (binaryOp .Mult (.int n t) (.ref b)) Q E s := by
  obtain ⟨cd, rest, hcd, hmro⟩ := ksp_first hc
  have one := ksp_try X J hs hf h
  have Lsub : Looks (model prog w) s.heap (isSubtype (.ref C) (.type "int")) false := looks_subIn X hsub
  have nope : wpAny (model prog w) A (tryMethod (.int n t) (PySem.dunder "mul") (.ref b)) (fun r s' => r = none ∧ s' = s) E s := by
    unfold tryMethod
    refine wpAny_bind (wpAny_callSpecial?_slot (typeIs_int s n t) F.slot_int_mul (fw_intmul J hd Lsub ?_))
    exact wpAny_pure ⟨rfl, rfl⟩
  obtain ⟨hh, g, d, tt, os⟩ := s
  have L1 : Looks (model prog w) hh (typeOf (.int n t)) (.type "int") := Looks.of_pure rfl
  have L2 : Looks (model prog w) hh (typeOf (.ref b)) (.ref C) := J.type
  have L3 : Looks (model prog w) hh (fillsNumberSlot (.type "int") "mul") true := Looks.of_pure F.fills_int_mul
  have L4 : Looks (model prog w) hh (fillsNumberSlot (.ref C) "mul") true := fills_K X hcd hmro hm
  have L5 : Looks (model prog w) hh (numberSlotInPython (.type "int") "mul") false := Looks.of_pure rfl
  simp only [binaryOp, Operator.info]
  refine wpAny_holding (wpAny_bind ?_)
  unfold binaryOp1
  have hne : (Value.type "int" == Value.ref C) = false := Bool.eq_false_iff.mpr fun q => by cases beq_iff_eq.mp q
  refine wpAny_bind (L1.at (wpAny_bind (L2.at (wpAny_bind (L3.at ?_)))))
  simp only [hne, Bool.false_eq_true, if_false]
  ksp_lk
  refine wpAny_mono nope (fun r s' hr => ?_) fun _ _ e => e
  obtain ⟨rfl, rfl⟩ := hr
  ksp_lk
  refine wpAny_mono one (fun r s' hr => ?_) fun _ _ e => e
  obtain ⟨v, rfl, hq⟩ := hr
  ksp_lk
  exact hq
end PySem.W

set_option Elab.async false
set_option linter.all false
set_option maxRecDepth 100000
set_option maxHeartbeats 4000000
namespace FV
open PySem PySem.Spec PyProof.Rows L2

/-! ### the contexts of a def's body -/
section
variable {P : Program} {w : World} {T : Tb} {mg : Str → Option Value} {base : Heap} {N : List Str} {qual : Str} {sc : Scope} {f : Addr} {cdv : Value} {A : Around} {outer : List Env} {s : Shared} {H : Hp} {E : XK}
theorem fits_body : Fits (cxOf (L2.CX P w) P w T.K mg base N qual sc f cdv A outer s H E) T (WF E) := ⟨rfl, takes_of rfl rfl rfl rfl⟩
theorem own_body : PassesOwn (model P w) (cxOf (L2.CX P w) P w T.K mg base N qual sc f cdv A outer s H E).A (cxOf (L2.CX P w) P w T.K mg base N qual sc f cdv A outer s H E).env (cxOf (L2.CX P w) P w T.K mg base N qual sc f cdv A outer s H E).xe := passes_of (E₁ := fun e' s'' => L2.CX P w outer H s E e' s'') rfl
theorem fits_blk {X : Cx} {scope : Scope} {cenv : Env} {fp : List Addr} (h : X.K = T.K) : Fits (X.blk s H scope cenv fp) T WN := ⟨h, takes0⟩
end

/-! ### what a body leans on, in bundles -/
section
variable (P : Program) (w : World) (T : Tb) (mg : Str → Option Value) (base : Heap)
/-- a def of the module -/
def FnG (k : Nat) (x : Str) (G : FnD) : Prop := ∃ f, mg x = some (.ref f) ∧ PySem.W.keepIn T.K (.ref f) = true ∧ FnX P w T mg base k f G
/-- a method -/
def MtG (k c : Nat) (m : Str) (G : FnD) : Prop := ∃ C f, T.CT[c]? = some C ∧ Meth T.K C m f ∧ FnX P w T mg base k f G
/-- a class made -/
def ClG (k c : Nat) (x : Str) (G : FnD) : Prop := ∃ C f, T.CT[c]? = some C ∧ mg x = some (.ref C) ∧ Mk T.K C f ∧ Cls T.K C ∧ FnX P w T mg base k f G
/-- a property -/
def PrG (k c : Nat) (m : Str) (G : FnD) : Prop := ∃ C p g fd ps, T.CT[c]? = some C ∧ PropOf T.K C m p g ∧ Binds T.K fd ps [] ∧ FnOk P w T.K mg base (L2.CX P w) k g fd ps (spR T G)
/-- a static method -/
def SmG (k : Nat) (x m : Str) (G : FnD) : Prop := ∃ C f, mg x = some (.ref C) ∧ SMet T.K C m f ∧ FnX P w T mg base k f G
/-- __iter__ -/
def ItG (k c i : Nat) : Prop := ∃ C f fld, T.CT[c]? = some C ∧ T.FT[i]? = some fld ∧ Meth T.K C "__iter__" f ∧ IterFn P w T.K mg base k f C fld
end
/-- .. that stand in the written part alone -/
def NaG (T : Tb) (c i : Nat) (name : Str) : Prop := ∃ C, T.CT[c]? = some C ∧ T.FT[i]? = some name ∧ NoAttr T.K C name
def IsG (T : Tb) (mg : Str → Option Value) (c : Nat) (x : Str) (b : Bool) : Prop := ∃ C C2, T.CT[c]? = some C ∧ ClsI T.K C ∧ PySem.W.kitOne T.K (.ref C) (.ref C2) = some b ∧ mg x = some (.ref C2)
def SfG (T : Tb) (c : Nat) : Prop := ∃ C, T.CT[c]? = some C ∧ PySem.W.selfFirst T.K C = true
def NfG (T : Tb) (c : Nat) : Prop := ∃ C, T.CT[c]? = some C ∧ PySem.W.notFirst T.K C (.ref C) = true
/-- an op with an int at the right -/
def OiG (T : Tb) (c : Nat) (nm : String) : Prop := ∃ C fo ro rc, T.CT[c]? = some C ∧ PySem.W.selfFirst T.K C = true ∧ PySem.W.findIn T.K (.ref C) (dunderR nm) = some rc ∧ (rc = none ∨ ∃ g : Addr, rc = some (.ref g)) ∧ PySem.W.findIn T.K (.type "int") (PySem.dunder nm) = some fo ∧ PySem.W.findIn T.K (.type "int") (dunderR nm) = some ro ∧ PySem.W.subIn T.K (.type "int") (.ref C) = some false
section
variable {X : Cx} {T : Tb} {W : WX} {pos pos' p apos : Pos} {e o : Expr} {es : List Expr} {d : Den} {t : DenA} {k : Nat} {G : FnD}
theorem fk {f : Addr} (hK : X.K = T.K) (F : FnX X.prog X.w T X.mg X.base k f G) : FnR X.prog X.w X.K X.mg X.base (L2.CX X.prog X.w) k f (spR T G) := by
  rw [hK]; exact F
theorem pxg_call {x : Str} (hF : Fits X T W) (F : FnG X.prog X.w T X.mg X.base k x G) (hr : Room k X.A) (ha : CallsBy X pos es (tA T W t)) (hg : Gl X x := by rfl) (hdb : (x == ("__debug__" : Str)) = false := by decide) : PX X T W (.Call (.Name x p) es [] pos) (dCall G t) := by
  obtain ⟨f, hm, hk, F⟩ := F
  rw [← hF.K] at hk
  replace F := fk hF.K F
  exact px_call hF F hr hm hk ha hg hdb
theorem pxg_make (c : Nat) {x : Str} (hF : Fits X T W) (F : ClG X.prog X.w T X.mg X.base k c x G) (hr : Room (k + 1) X.A) (ha : CallsBy X pos es (tA T W t)) (hg : Gl X x := by rfl) (hdb : (x == ("__debug__" : Str)) = false := by decide) : PX X T W (.Call (.Name x p) es [] pos) (dMake c G t) := by
  obtain ⟨C, f, hC, hm, MK, cl, F⟩ := F
  rw [← hF.K] at MK
  replace F := fk hF.K F
  exact px_make c hF MK hC cl F hr hm ha hg hdb
theorem pxg_makeV (c : Nat) {x : Str} (hF : Fits X T W) (F : ClG X.prog X.w T X.mg X.base k c x G) (hr : Room (k + 1) X.A) (ha : CallsBy X pos es (tA T W t)) (hg : Gl X x := by rfl) (hdb : (x == ("__debug__" : Str)) = false := by decide) : PX X T W (.Call (.Name x p) es [] pos) (dMakeV c G t) := by
  obtain ⟨C, f, hC, hm, MK, cl, F⟩ := F
  rw [← hF.K] at MK
  replace F := fk hF.K F
  exact px_makeV c hF MK hC cl F hr hm ha hg hdb
theorem pxg_meth (c : Nat) {m : Str} {pl : Sem Bool} {od : Den} (hF : Fits X T W) (F : MtG X.prog X.w T X.mg X.base k c m G) (hnf : m ∉ T.FT) (hr : Room k X.A) (ho : PX X T W o od) (ha : CallsBy X pos es (tA T W t))
    (ht : eval (.Call (.Attribute o m apos) es [] pos) X.env = (do
      let ov ← eval o X.env
      standAt apos.atName
      let (f, first) ← holding [ov] (getMethod ov m pl)
      callWith pos f first (backTo pos (starEach es X.env)) (backToKw pos (keywordEach [] X.env))) := by rfl) :
    PX X T W (.Call (.Attribute o m apos) es [] pos) (dMeth c G od t) := by
  obtain ⟨C, f, hC, hm, F⟩ := F
  rw [← hF.K] at hm
  replace F := fk hF.K F
  exact px_meth c hF hC hnf hm F hr ho ha ht
theorem pxg_prop (c : Nat) {m : Str} {od : Den} (hF : Fits X T W) (F : PrG X.prog X.w T X.mg X.base k c m G) (hr : Room (k + 1) X.A) (ho : PX X T W e od)
    (hab : attributeBase e m X.env (eval e X.env) = eval e X.env := by rfl) : PX X T W (.Attribute e m pos) (dProp c G od) := by
  obtain ⟨C, pp, g, fd, ps, hC, hp, hb, F⟩ := F
  rw [← hF.K] at hp hb F
  exact px_prop c hF hC hp F hb hr ho hab
theorem pxg_static {x m : Str} {pl : Sem Bool} (hF : Fits X T W) (F : SmG X.prog X.w T X.mg X.base k x m G) (hr : Room k X.A) (ha : CallsBy X pos es (tA T W t)) (hg : Gl X x := by rfl)
    (hdb : (x == ("__debug__" : Str)) = false := by decide)
    (ht : eval (.Call (.Attribute (.Name x p) m apos) es [] pos) X.env = (do
      let ov ← eval (.Name x p) X.env
      standAt apos.atName
      let (f, first) ← holding [ov] (getMethod ov m pl)
      callWith pos f first (backTo pos (starEach es X.env)) (backToKw pos (keywordEach [] X.env))) := by rfl) :
    PX X T W (.Call (.Attribute (.Name x p) m apos) es [] pos) (dCall G t) := by
  obtain ⟨C, f, hm, hS, F⟩ := F
  rw [← hF.K] at hS
  replace F := fk hF.K F
  exact px_static hF hS F hr hm ha hg hdb ht
theorem pixg_own {c i : Nat} {tg : Expr} (hF : Fits X T W) (F : ItG X.prog X.w T X.mg X.base k c i) (hr : Room k X.A) (h : PX X T W e d) : PIX X T W tg e (dIOwn c i d) := by
  obtain ⟨C, f, fld, hC, hn, hm, F⟩ := F
  rw [← hF.K] at hm F
  exact pix_own hF hC hn hm F hr h
theorem psxg_fld (c i : Nat) {name : Str} {od : Den} (hF : Fits X T W) (h : NaG T c i name) (ho : PX X T W o od) (hv : PX X T W e d)
    (hs : swapsWith e (some (.Attribute o name pos')) pos.line X.env = pure false := by rfl) : PSX X T W (.Assign [.Attribute o name pos'] e pos) (dSetF c i od d) := by
  obtain ⟨C, hC, hn, na⟩ := h
  exact psx_fld c i hF hn hC na ho hv hs
/-- self.f = [comprehension]: swapsWith is false there, too -/
theorem pxg_isC {e : Expr} {d : Den} {x : Str} {c : Nat} {b : Bool} {p p2 : Pos} (hF : Fits X T W) (h : IsG T X.mg c x b) (hm : X.mg "isinstance" = none) (he : PX X T W e d)
    (hg2 : Gl X x := by rfl) (hd2 : (x == ("__debug__" : Str)) = false := by decide)
    (hg : Gl X "isinstance" := by rfl) (hs : starEach [e, .Name x p2] X.env = (false, eval e X.env) :: starEach [.Name x p2] X.env := by rfl) (hs2 : starEach [.Name x p2] X.env = (false, eval (.Name x p2) X.env) :: starEach [] X.env := by rfl)
    (hpl : (backTo pos (starEach [.Name x p2] X.env)).any (·.1) = false := by rfl) : PX X T W (.Call (.Name "isinstance" p) [e, .Name x p2] [] pos) (dIsC c b d) := by
  obtain ⟨C, C2, hC, hI, hk, hm2⟩ := h
  rw [← hF.K] at hI hk
  exact px_isC hF hC hI hk hm hm2 he hg2 hd2 hg hs hs2 hpl
theorem oxg_own2 {c : Nat} {op : Operator} {m : Str} (hK : X.K = T.K) (F : MtG X.prog X.w T X.mg X.base k c m G) (hc : SfG T c) (hr : Room k X.A) (hd : PySem.dunder op.info.2 = m := by decide +kernel) : OpX X T (binaryOp op) (own2 c G) := by
  obtain ⟨C, f, hC, hm, F⟩ := F
  obtain ⟨C', hC', hc⟩ := hc
  rw [hC] at hC'; cases hC'
  rw [← hK] at hm hc
  replace F := fk hK F
  exact ox_own2 hK hC hm hd hc F hr
theorem oxg_le {c : Nat} (hK : X.K = T.K) (F : MtG X.prog X.w T X.mg X.base k c "__le__" G) (hn : NfG T c) (hr : Room k X.A) : OpX X T (compareOp .LtE) (own2 c G) := by
  obtain ⟨C, f, hC, hm, F⟩ := F
  obtain ⟨C', hC', hn⟩ := hn
  rw [hC] at hC'; cases hC'
  rw [← hK] at hm hn
  replace F := fk hK F
  exact ox_ownC (m := "__le__") hK hC hm (by decide +kernel) hn (fun h => h) F hr
theorem oxg_eq {c : Nat} (hK : X.K = T.K) (F : MtG X.prog X.w T X.mg X.base k c "__eq__" G) (hn : NfG T c) (hr : Room k X.A) : OpX X T (compareOp .Eq) (own2 c G) := by
  obtain ⟨C, f, hC, hm, F⟩ := F
  obtain ⟨C', hC', hn⟩ := hn
  rw [hC] at hC'; cases hC'
  rw [← hK] at hm hn
  replace F := fk hK F
  exact ox_ownC (m := "__eq__") hK hC hm (by decide +kernel) hn (fun h => h) F hr
theorem oxg_ownI {c : Nat} {op : Operator} {m : Str} {nm : String} (hK : X.K = T.K) (F : MtG X.prog X.w T X.mg X.base k c m G) (hc : OiG T c nm) (hr : Room k X.A) (hd : PySem.dunder op.info.2 = m := by decide +kernel) (hnm : op.info.2 = nm := by rfl) : OpX X T (binaryOp op) (ownI c G) := by
  subst hnm
  obtain ⟨C, f, hC, hm, F⟩ := F
  obtain ⟨C', fo, ro, rc, hC', h1, h2, h3, h4, h5, h6⟩ := hc
  rw [hC] at hC'; cases hC'
  rw [← hK] at hm h1 h2 h4 h5 h6
  replace F := fk hK F
  exact ox_ownI hK hC hm hd h1 h2 h3 h4 h5 h6 F hr
/-- n * o: o's __rmul__ -/
def ownRI (c : Nat) (G : FnD) : OpD := fun x y st => match x with
  | .int _ => if isIns c y st = true then ofR (G [y, x] st) else none
  | _ => none
/-- what int * instance asks of the class -/
def RiG (T : Tb) (c : Nat) : Prop := ∃ C g2, T.CT[c]? = some C ∧ PySem.W.selfFirst T.K C = true ∧ PySem.W.findIn T.K (.ref C) (PySem.dunder "mul") = some (some (.ref g2)) ∧ PySem.W.subIn T.K (.ref C) (.type "int") = some false
theorem oxg_ownRI {c : Nat} (hK : X.K = T.K) (F : MtG X.prog X.w T X.mg X.base k c "__rmul__" G) (hc : RiG T c) (hr : Room k X.A) : OpX X T (binaryOp .Mult) (ownRI c G) := fun pins s σ H x y v u Q I rx ry ⟨M, d, e, st, so, r1, r2, h⟩ => by
  obtain ⟨C, f, hC, hm, F⟩ := F
  obtain ⟨C', g2, hC', h1, h2, h3⟩ := hc
  rw [hC] at hC'; cases hC'
  rw [← hK] at hm h1 h2 h3
  replace F := fk hK F
  unfold ownRI at h
  cases d with
  | int j =>
    dsimp only at h
    by_cases hi : isIns c e st = true
    · rw [if_pos hi] at h
      obtain ⟨fs1, q1⟩ := isIns_of hi
      obtain ⟨a, C1, dx1, vs1, rfl, g2', g3, g4, g5⟩ := ins_of so r2 q1
      rw [hC] at g2'; cases g2'
      obtain rfl : u = Value.ref a := ry
      have r1' := r1
      simp only [RV] at r1'
      subst r1'
      obtain ⟨t, rfl⟩ := id rx
      obtain ⟨od1, J1⟩ := inst_of I g4
      refine PySem.W.fw_refl I.kIn J1 rfl h1 h2 (show PySem.W.findIn X.K (.ref C) (dunderR "mul") = some (some (.ref f)) from hm.at_) hm.fn h3 ?_
      refine thn (run_own (us := [.ref a, .int j t]) (vs := [.ref a, .int j]) (ds := [e, .int j]) F hr rfl I (.cons rfl (.cons ⟨t, rfl⟩ .nil)) so (by simp only [RVs]; exact ⟨_, _, rfl, r2, _, _, rfl, r1, rfl⟩) h) fun r s' hh => ?_
      obtain ⟨z, H', I', rz, q⟩ := hh
      exact SlX.cmpback rz ⟨z, H', I', rz, q⟩
    · rw [if_neg hi] at h; exact h.elim
  | _ => exact h.elim
theorem oxg_ownIn {c : Nat} (hK : X.K = T.K) (F : MtG X.prog X.w T X.mg X.base k c "__contains__" G) (hr : Room k X.A) : OpX X T (compareOp .In) (ownIn c G) := by
  obtain ⟨C, f, hC, hm, F⟩ := F
  rw [← hK] at hm
  replace F := fk hK F
  exact ox_ownIn hK hC hm F hr
theorem cxg_ownLen {c : Nat} (hK : X.K = T.K) (F : MtG X.prog X.w T X.mg X.base k c "__len__" G) (hr : Room (k + 1) X.A) : CallX X T (.builtin "len") (ownLen c G) := by
  obtain ⟨C, f, hC, hm, F⟩ := F
  rw [← hK] at hm
  replace F := fk hK F
  exact cx_ownLen hK hC hm F hr
theorem cxg_ownStr {c : Nat} (hK : X.K = T.K) (F : MtG X.prog X.w T X.mg X.base k c "__str__" G) (hr : Room (k + 2) X.A) : CallX X T (.type "str") (ownStr c G) := by
  obtain ⟨C, f, hC, hm, F⟩ := F
  rw [← hK] at hm
  replace F := fk hK F
  exact cx_ownStr hK hC hm F hr
/-- x += e of ints -/
def iaddO : OpD := fun x y st => match x, y with
  | .int i, .int j => some (.int (i + j), st)
  | _, _ => none
def isubO : OpD := fun x y st => match x, y with
  | .int i, .int j => some (.int (i - j), st)
  | _, _ => none
theorem pip_imp {op : Operator} {r r' : TIp} (h : PIp X op r) (f : ∀ x y H Q, r' x y H Q → r x y H Q) : PIp X op r' := fun pins s σ H x y v u Q I rx ry q => h pins s σ H x y v u Q I rx ry (f x y H Q q)
theorem ipx_add : PIp X .Add (rD T iaddO) := pip_imp ip_add fun x y H Q ⟨M, d, e, st, s, r1, r2, h⟩ => by
  cases d with
  | int i =>
    cases e with
    | int j =>
      simp only [RV] at r1 r2; subst r1 r2
      exact ⟨i, j, rfl, rfl, PostO.fin s (by simp [RV]) h⟩
    | _ => exact h.elim
  | _ => exact h.elim
theorem ipx_sub : PIp X .Sub (rD T isubO) := pip_imp ip_sub fun x y H Q ⟨M, d, e, st, s, r1, r2, h⟩ => by
  cases d with
  | int i =>
    cases e with
    | int j =>
      simp only [RV] at r1 r2; subst r1 r2
      exact ⟨i, j, rfl, rfl, PostO.fin s (by simp [RV]) h⟩
    | _ => exact h.elim
  | _ => exact h.elim
end
/-! ### from a body's derivation to the bundles -/
section
variable {P : Program} {w : World} {T : Tb} {mg : Str → Option Value} {base : Heap} {k : Nat} {f : Addr} {fd : FuncData} {x qual : Str} {st : Stmt} {N ps : List Str} {b : DenS} {C : Addr} {c : Nat}
/-- how the names of a def stand to its text: parameters bound by place -/
abbrev BindP (ps : List Str) (x qual : Str) (st : Stmt) : Prop := ∀ (kV doc pm : Value) (an : Option Addr) (cdv ct : Value) (us : List Value), us.length = ps.length → bindArgs (PySem.W.fnOf x qual (defArgs st) (defBody st) (defScope st) .none kV doc pm an cdv ct) ⟨us, []⟩ = pure (ps.zip us)
abbrev BindS (ps : List Str) (pv x qual : Str) (st : Stmt) : Prop := ∀ (kV doc pm : Value) (an : Option Addr) (cdv ct : Value) (us rest : List Value), us.length = ps.length →
      bindArgs (PySem.W.fnOf x qual (defArgs st) (defBody st) (defScope st) .none kV doc pm an cdv ct) ⟨us ++ rest, []⟩ = (newTuple rest >>= fun t => pure (ps.zip us ++ [(pv, t)]))
theorem fng_of (F : Fun T.K x qual st f fd) (hm : mg x = some (.ref f)) (S : FnScope N ps (defScope st)) (hb : BindP ps x qual st) {G : FnD} (hG : IsBody ps.length N.length b G) (h : BodyX P w T mg base k N qual st f b) : FnG P w T mg base (k + 1) x G :=
  ⟨f, hm, F.kp, fnx_body F S (F.binds hb) hG h⟩
/-- a method's facts -/
theorem mtg_of (F : Fun T.K x qual st f fd) (hC : T.CT[c]? = some C) (a : PySem.W.findIn T.K (.ref C) x = some (some (.ref f))) (i : PySem.W.isFn T.K (.ref f) = true) (S : FnScope N ps (defScope st)) (hb : BindP ps x qual st) {G : FnD} (hG : IsBody ps.length N.length b G) (h : BodyX P w T mg base k N qual st f b) : MtG P w T mg base (k + 1) c x G :=
  ⟨C, f, hC, ⟨a, i, F.kp⟩, fnx_body F S (F.binds hb) hG h⟩
theorem clg_of {X : Str} (F : Fun T.K "__init__" qual st f fd) (hC : T.CT[c]? = some C) (hm : mg X = some (.ref C)) (cl : Cls T.K C) (mk : PySem.W.makesIn T.K C = true) (kc : PySem.W.keepIn T.K (.ref C) = true) (a : PySem.W.findIn T.K (.ref C) "__init__" = some (some (.ref f))) (i : PySem.W.isFn T.K (.ref f) = true)
    (S : FnScope N ps (defScope st)) (hb : BindP ps "__init__" qual st) {G : FnD} (hG : IsBody ps.length N.length b G) (h : BodyX P w T mg base k N qual st f b) : ClG P w T mg base (k + 1) c X G :=
  ⟨C, f, hC, hm, ⟨mk, a, i, kc⟩, cl, fnx_body F S (F.binds hb) hG h⟩
theorem clg_ofS {X pv : Str} (F : Fun T.K "__init__" qual st f fd) (hC : T.CT[c]? = some C) (hm : mg X = some (.ref C)) (cl : Cls T.K C) (mk : PySem.W.makesIn T.K C = true) (kc : PySem.W.keepIn T.K (.ref C) = true) (a : PySem.W.findIn T.K (.ref C) "__init__" = some (some (.ref f))) (i : PySem.W.isFn T.K (.ref f) = true)
    (S : FnScope N (ps ++ [pv]) (defScope st)) (hb : BindS ps pv "__init__" qual st) {G : FnD} (hG : IsBody (ps.length + 1) N.length b G) (h : BodyX P w T mg base k N qual st f b) : ClG P w T mg base (k + 1) c X (starF ps.length G) :=
  ⟨C, f, hC, hm, ⟨mk, a, i, kc⟩, cl, fnx_star F S hb hG h⟩
theorem prg_of {p : Addr} {rest : List Value} (F : Fun T.K x qual st f fd) (hC : T.CT[c]? = some C) (a : PySem.W.findIn T.K (.ref C) x = some (some (.ref p))) (g : PySem.W.specialIn T.K (.ref p) "__get__" = some (some (.builtin "property.__get__"))) (t : PySem.W.takesIn T.K (.ref p) = some true) (r : PySem.W.recIn T.K p "property" = some (.ref f :: rest))
    (S : FnScope N ps (defScope st)) (hb : BindP ps x qual st) {G : FnD} (hG : IsBody ps.length N.length b G) (h : BodyX P w T mg base k N qual st f b) : PrG P w T mg base (k + 1) c x G :=
  ⟨C, p, f, fd, ps, hC, ⟨a, g, t, rest, r⟩, F.binds hb, fnok_body F S hG h⟩
theorem smg_ofS {p : Addr} {rest : List Value} {X pv : Str} (F : Fun T.K x qual st f fd) (hm : mg X = some (.ref C)) (rd : PySem.W.readsIn T.K C (.type "type") = true) (ga : PySem.W.specialIn T.K (.ref C) "__getattribute__" = some (some (.builtin "type.__getattribute__")))
    (a : PySem.W.findCls T.K (.ref C) (.type "type") x = some (.get (.builtin "staticmethod.__get__") (.ref p) .none (.ref C))) (r : PySem.W.recIn T.K p "staticmethod" = some (.ref f :: rest)) (S : FnScope N (ps ++ [pv]) (defScope st)) (hb : BindS ps pv x qual st) {G : FnD} (hG : IsBody (ps.length + 1) N.length b G) (h : BodyX P w T mg base k N qual st f b) : SmG P w T mg base (k + 1) X x (starF ps.length G) :=
  ⟨C, f, hm, ⟨rd, ga, ⟨p, a, rest, r⟩, F.kp⟩, fnx_star F S hb hG h⟩
theorem smg_of {p : Addr} {rest : List Value} {X : Str} (F : Fun T.K x qual st f fd) (hm : mg X = some (.ref C)) (rd : PySem.W.readsIn T.K C (.type "type") = true) (ga : PySem.W.specialIn T.K (.ref C) "__getattribute__" = some (some (.builtin "type.__getattribute__")))
    (a : PySem.W.findCls T.K (.ref C) (.type "type") x = some (.get (.builtin "staticmethod.__get__") (.ref p) .none (.ref C))) (r : PySem.W.recIn T.K p "staticmethod" = some (.ref f :: rest)) (S : FnScope N ps (defScope st)) (hb : BindP ps x qual st) {G : FnD} (hG : IsBody ps.length N.length b G) (h : BodyX P w T mg base k N qual st f b) : SmG P w T mg base (k + 1) X x G :=
  ⟨C, f, hm, ⟨rd, ga, ⟨p, a, rest, r⟩, F.kp⟩, fnx_body F S (F.binds hb) hG h⟩
theorem fng_ofS {pv : Str} (F : Fun T.K x qual st f fd) (hm : mg x = some (.ref f)) (S : FnScope N (ps ++ [pv]) (defScope st)) (hb : BindS ps pv x qual st) {G : FnD} (hG : IsBody (ps.length + 1) N.length b G) (h : BodyX P w T mg base k N qual st f b) : FnG P w T mg base (k + 1) x (starF ps.length G) :=
  ⟨f, hm, F.kp, fnx_star F S hb hG h⟩
theorem mtg_ofS {pv : Str} (F : Fun T.K x qual st f fd) (hC : T.CT[c]? = some C) (a : PySem.W.findIn T.K (.ref C) x = some (some (.ref f))) (i : PySem.W.isFn T.K (.ref f) = true) (S : FnScope N (ps ++ [pv]) (defScope st)) (hb : BindS ps pv x qual st) {G : FnD} (hG : IsBody (ps.length + 1) N.length b G) (h : BodyX P w T mg base k N qual st f b) : MtG P w T mg base (k + 1) c x (starF ps.length G) :=
  ⟨C, f, hC, ⟨a, i, F.kp⟩, fnx_star F S hb hG h⟩
theorem itg_of {i : Nat} {fld : Str} {p1 p2 p3 p4 p5 : Pos} (F : Fun T.K "__iter__" qual st f fd) (hC : T.CT[c]? = some C) (hn : T.FT[i]? = some fld) (a : PySem.W.findIn T.K (.ref C) "__iter__" = some (some (.ref f))) (ii : PySem.W.isFn T.K (.ref f) = true) (S : FnScope ["self"] ["self"] (defScope st)) (hb : BindP ["self"] "__iter__" qual st) (hm : mg "iter" = none) (hg : (defScope st).names.lookup ("iter" : Str) = some .globalImplicit)
    (hbd : defBody st = [.Return (some (.Call (.Name "iter" p1) [.Attribute (.Name "self" p2) fld p3] [] p4)) p5]) : ItG P w T mg base (k + 1) c i :=
  ⟨C, f, fld, hC, hn, ⟨a, ii, F.kp⟩, iterFn_of F S (F.binds hb) hm hg hbd⟩
end
end FV

set_option Elab.async false
set_option linter.all false
set_option maxRecDepth 100000
set_option maxHeartbeats 4000000
namespace FV
open PySem PySem.Spec PyProof.Rows L2
/-! ### the law's own call -/
theorem script_rv {K : PySem.W.Frag} {H : Hp} {a : Addr} {ns : List Int} (hO : Only H) (hS : SqL K H a (ns.map V.int)) : (∃ o, H a = some (.frz o (.lst (ns.map V.int)))) ∨ SqK K a (ns.map V.int) := by
  rcases hS with (h | h) | h
  · rcases hO a with e | ⟨o, xs, e⟩
    · rw [e] at h; cases h
    · rw [e] at h; cases h
  · exact .inl h
  · exact .inr h
theorem bindS0 {st : Stmt} {x qual pv : Str} {q : Pos} (e : defArgs st = ⟨[], [], some ⟨pv, none, q⟩, [], [], none, []⟩) : BindS [] pv x qual st := by
  intro kV doc pm an cdv ct us rest hl
  match us, hl with
  | [], _ =>
    rw [e]
    generalize defBody _ = bb
    generalize defScope _ = ss
    simp [bindArgs, PySem.W.fnOf, seqItems?]
    rfl
theorem bindS1 {st : Stmt} {x qual n pv : Str} {p q : Pos} (e : defArgs st = ⟨[], [⟨n, none, p⟩], some ⟨pv, none, q⟩, [], [], none, []⟩) : BindS [n] pv x qual st := by
  intro kV doc pm an cdv ct us rest hl
  match us, hl with
  | [a], _ =>
    rw [e]
    generalize defBody _ = bb
    generalize defScope _ = ss
    simp [bindArgs, PySem.W.fnOf, seqItems?]
    rfl
end FV

set_option Elab.async false
set_option linter.all false
set_option maxRecDepth 100000
set_option maxHeartbeats 4000000
namespace FV
open PySem PySem.Spec PyProof.Rows L2

/-! ### keys that are tuples, told of the abstract heap -/
mutual
inductive KIs (H : Hp) : NestedKey → V → Prop
  | none : KIs H .none .non
  | bl (b : Bool) : KIs H (.num (if b then 1 else 0)) (.bl b)
  | num (i : Int) : KIs H (.num i) (.int i)
  | text (s : Str) : KIs H (.text s) (.str s)
  | tup {a : Addr} {vs : List V} {ks : List NestedKey} : H a = some (.tup vs) → KAll H ks vs → KIs H (.tup ks) (.ref a)
inductive KAll (H : Hp) : List NestedKey → List V → Prop
  | nil : KAll H [] []
  | cons {k : NestedKey} {v : V} {ks : List NestedKey} {vs : List V} : KIs H k v → KAll H ks vs → KAll H (k :: ks) (v :: vs)
end
section
variable {T : Tb} {M : Mu} {H : Hp}
mutual
theorem keyN_is : ∀ {d : D} {v : V} {q : NestedKey}, keyN d = some q → RV T M H d v → KIs H q v
  | .non, v, q, e, r => by simp only [keyN, Option.some.injEq] at e; simp only [RV] at r; subst e r; exact .none
  | .bl b, v, q, e, r => by simp only [keyN, Option.some.injEq] at e; simp only [RV] at r; subst e r; exact .bl b
  | .int i, v, q, e, r => by simp only [keyN, Option.some.injEq] at e; simp only [RV] at r; subst e r; exact .num i
  | .str s, v, q, e, r => by simp only [keyN, Option.some.injEq] at e; simp only [RV] at r; subst e r; exact .text s
  | .tup xs, v, q, e, r => by
    simp only [keyN, Option.map_eq_some_iff] at e
    obtain ⟨ks, e, rfl⟩ := e
    simp only [RV] at r
    obtain ⟨a, vs, rfl, _, h, r⟩ := r
    exact .tup h (keyNs_is e r)
  | .lst _, v, q, e, r => by simp [keyN] at e
  | .dct _ _, v, q, e, r => by simp [keyN] at e
  | .ins _ _, v, q, e, r => by simp [keyN] at e
  | .ref _, v, q, e, r => by simp [keyN] at e
  | .scr _, v, q, e, r => by simp [keyN] at e
  | .exv _ _, v, q, e, r => by simp [keyN] at e
theorem keyNs_is : ∀ {d : List D} {v : List V} {q : List NestedKey}, keyNs d = some q → RVs T M H d v → KAll H q v
  | [], v, q, e, r => by simp only [keyNs, Option.some.injEq] at e; simp only [RVs] at r; subst e r; exact .nil
  | x :: xs, v, q, e, r => by
    simp only [keyNs] at e
    obtain ⟨a, e1, e⟩ := Option.bind_eq_some_iff.mp e
    obtain ⟨b, e2, rfl⟩ := Option.map_eq_some_iff.mp e
    simp only [RVs] at r
    obtain ⟨w, ws, rfl, r1, r2⟩ := r
    exact .cons (keyN_is e1 r1) (keyNs_is e2 r2)
end
end
section
variable {P : Program} {w : World} {H : Hp} {h : Heap}
mutual
theorem kis_nested (ok : HOk P w H h) : ∀ {q : NestedKey} {v : V} {u : Value}, KIs H q v → RelV v u → NestedIs h q u
  | .none, v, u, k, r => by cases k; cases r; exact .none
  | .num i, v, u, k, r => by
    cases k with
    | bl b => cases r; exact .bool rfl
    | num => obtain ⟨t, rfl⟩ := r; exact .int i t
  | .text s, v, u, k, r => by cases k; obtain ⟨t, rfl⟩ := r; exact .text s t
  | .tup ks, v, u, k, r => by
    cases k with
    | tup h1 h2 =>
      cases r
      obtain ⟨_, its, rv, o, e1, e2, n, e3⟩ := (show ObjOk P w H h _ (.tup _) from ok _ _ h1)
      exact .tup e1 e2 e3 (by simpa using kall_nested ok h2 rv)
theorem kall_nested (ok : HOk P w H h) : ∀ {q : List NestedKey} {v : List V} {u : List Value}, KAll H q v → Vals v u → NestedAll h q u
  | [], v, u, k, r => by cases k; cases r; exact .nil
  | q :: qs, v, u, k, r => by
    cases k with
    | cons k1 k2 =>
      cases r with
      | cons r1 r2 => exact .cons (kis_nested ok k1 r1) (kall_nested ok k2 r2)
end
/-- a key of the nested kind -/
def NK (H : Hp) (q : NestedKey) (b : Addr) : Prop := KIs H q (.ref b) ∧ q.depth ≤ 8
theorem NK.is {q : NestedKey} {b : Addr} (ok : HOk P w H h) (k : NK H q b) : (nestedKind P w).is h q b := ⟨kis_nested ok k.1 rfl, k.2⟩
def valN (ks : List (NestedKey × Addr × V)) (q : NestedKey) : Option V := (ks.find? fun p => decide (p.1 = q)).map (·.2.2)
def putN' (ks : List (NestedKey × Addr × V)) (q : NestedKey) (b : Addr) (v : V) : List (NestedKey × Addr × V) :=
  if (valN ks q).isSome then ks.map fun p => if p.1 = q then (p.1, p.2.1, v) else p else ks ++ [(q, b, v)]
abbrev KR (ks : List (NestedKey × Addr × V)) (xs : List (NestedKey × Addr × Value)) : Prop := Paired (fun (p : NestedKey × Addr × V) (q : NestedKey × Addr × Value) => p.1 = q.1 ∧ p.2.1 = q.2.1 ∧ RelV p.2.2 q.2.2) ks xs
theorem KR.val {ks : List (NestedKey × Addr × V)} {xs : List (NestedKey × Addr × Value)} (r : KR ks xs) (q : NestedKey) : RelO (valN ks q) ((atKey xs q).map (·.2)) := by
  induction r with
  | nil => trivial
  | @cons p x ks xs hh t ih =>
    obtain ⟨h1, h2, h3⟩ := hh
    by_cases e : p.1 = q
    · have e' : x.1 = q := h1.symm.trans e
      simpa [valN, atKey, e, e', RelO] using h3
    · have e' : ¬ x.1 = q := fun z => e (h1.trans z)
      simpa [valN, atKey, e, e'] using ih
theorem KR.repl {q : NestedKey} {v : V} {u : Value} (r : RelV v u) {ks : List (NestedKey × Addr × V)} {xs : List (NestedKey × Addr × Value)} (k : KR ks xs) : KR (ks.map fun p => if p.1 = q then (p.1, p.2.1, v) else p) (xs.map (putAt q u)) := by
  induction k with
  | nil => exact .nil
  | @cons p x ks xs hh t ih =>
    obtain ⟨h1, h2, h3⟩ := hh
    refine .cons ?_ ih
    unfold putAt
    dsimp only
    by_cases e : p.1 = q
    · have e' : x.1 = q := h1.symm.trans e
      rw [if_pos e, if_pos e']
      exact ⟨h1, h2, r⟩
    · have e' : ¬ x.1 = q := fun z => e (h1.trans z)
      rw [if_neg e, if_neg e']
      exact ⟨h1, h2, h3⟩
theorem KR.put {q : NestedKey} {b : Addr} {v : V} {u : Value} {ks : List (NestedKey × Addr × V)} {xs : List (NestedKey × Addr × Value)} (k : KR ks xs) (r : RelV v u) : KR (putN' ks q b v) (storedH xs q b u) := by
  unfold putN' storedH
  have e := (KR.val k q).isSome_eq
  rw [Option.isSome_map] at e
  rw [e]
  by_cases h : (atKey xs q).isSome = true
  · rw [if_pos h, if_pos h]; exact k.repl r
  · rw [if_neg h, if_neg h]; exact Paired.snoc k ⟨rfl, rfl, r⟩
theorem putN'_len (ks : List (NestedKey × Addr × V)) (q : NestedKey) (b : Addr) (v : V) : (putN' ks q b v).length ≤ ks.length + 1 := by
  unfold putN'; split <;> simp
/-- a dict of the nested kind, for the library's rules -/
theorem nd_of {a : Addr} {ks : List (NestedKey × Addr × V)} (ok : HOk P w H h) (e : H a = some (.ext (NdO P w a ks))) (hk : ∀ p ∈ ks, NK H p.1 p.2.1) :
    (a == sysModules) = false ∧ ks.length ≤ sizeLine ∧ ∃ xs, KR ks xs ∧ h.DictOfH (nestedKind P w) a xs := by
  obtain ⟨⟨h1, h2, xs, rel, o, es, ep, ho, hx, hd, he, hn⟩, _, _⟩ := (show ObjOk P w H h a (.ext (NdO P w a ks)) from ok a _ e)
  refine ⟨h1, h2, xs, rel, o, es, ep, ho, hx, hd, he, fun x hx => ?_, hn⟩
  have all : ∀ {l : List (NestedKey × Addr × V)} {m : List (NestedKey × Addr × Value)}, KR l m → (∀ p ∈ l, NK H p.1 p.2.1) → ∀ x ∈ m, (nestedKind P w).is h x.1 x.2.1 := by
    intro l m q
    induction q with
    | nil => intro _ x hx; cases hx
    | @cons p q ps qs hq t ih =>
      intro hl x hx
      rcases List.mem_cons.mp hx with e | hx
      · subst e
        have := (hl p List.mem_cons_self).is ok
        rwa [hq.1, hq.2.1] at this
      · exact ih (fun p hp => hl p (List.mem_cons_of_mem _ hp)) x hx
  exact all rel hk x hx
/-- its object, behind a store -/
theorem nd_new {a : Addr} {H' : Hp} {h' : Heap} {ks : List (NestedKey × Addr × V)} {xs : List (NestedKey × Addr × Value)} (h1 : (a == sysModules) = false) (h2 : ks.length ≤ sizeLine) (rel : KR ks xs) (dd : h'.DictOfH (nestedKind P w) a xs) : ObjOk P w H' h' a (.ext (NdO P w a ks)) := by
  obtain ⟨o, es, ep, ho, hx, hd, he, his, hn⟩ := dd
  refine ⟨⟨h1, h2, xs, rel, o, es, ep, ho, hx, hd, he, hn⟩, ⟨o, ho⟩, ?_⟩
  rintro ha hb ⟨k1, k2, ys, r2, o2, es2, ep2, ho2, q⟩ hk
  exact ⟨k1, k2, ys, r2, o2, es2, ep2, hk _ ho2, q⟩
end
/-! ### both kinds of dicts -/
def NGet (P : Program) (w : World) (H : Hp) (a : Addr) (y : V) (r : Option V) : Prop := ∃ ks q b, H a = some (.ext (NdO P w a ks)) ∧ (∀ p ∈ ks, NK H p.1 p.2.1) ∧ y = .ref b ∧ NK H q b ∧ valN ks q = r
def GGet (P : Program) (w : World) (H : Hp) (a : Addr) (y : V) (r : Option V) : Prop := DGet H a y r ∨ NGet P w H a y r
def NPut (P : Program) (w : World) (H : Hp) (a : Addr) (y v : V) (H' : Hp) : Prop := ∃ ks q b, H a = some (.ext (NdO P w a ks)) ∧ (∀ p ∈ ks, NK H p.1 p.2.1) ∧ y = .ref b ∧ NK H q b ∧ ks.length < sizeLine ∧ H' = upd H a (.ext (NdO P w a (putN' ks q b v)))
def GPut (P : Program) (w : World) (H : Hp) (a : Addr) (y v : V) (H' : Hp) : Prop := DPut H a y v H' ∨ NPut P w H a y v H'
section
variable {X : Cx} {pins : List (Addr × Obj)} {σ : L2.St} {H H' : Hp} {s : Shared} {a : Addr} {y v d : V} {u r : Value} {o : Option V} {A : Around} {E : Value → Shared → Prop}
theorem g_getItem {Q : Value → Shared → Prop} (hu : A.units + 65 < cLine) (I : Inv X pins σ H s) (g : GGet X.prog X.w H a y (some v)) (ry : RelV y u) (h : ∀ w' s', Inv X pins σ H s' → RelV v w' → Q w' s') :
    wpAny (model X.prog X.w) A (getItem (.ref a) u) Q E s := by
  rcases g with g | ⟨ks, q, b, e, hk, rfl, kq, l⟩
  · exact d_getItem (by omega) I g ry h
  · cases ry
    obtain ⟨hd, z, xs, rel, dd⟩ := nd_of I.hok e hk
    obtain ⟨w', hw, rw'⟩ := RelO.some_of (v := v) (o := (atKey xs q).map (·.2)) (by rw [← l]; exact rel.val q)
    obtain ⟨p, hp, hp2⟩ := Option.map_eq_some_iff.mp hw
    refine wpAny_getItem_heap (show (nestedKind X.prog X.w).room A.in1 from by show A.in1.units + 8 < cLine; have : A.in1.units = A.units + 1 := rfl; omega) (kq.is I.hok) dd hp ?_
    rw [hp2]
    exact h w' _ (I.tok _) rw'
theorem g_in {Q : Value → Shared → Prop} (hu : A.units + 65 < cLine) (I : Inv X pins σ H s) (g : GGet X.prog X.w H a y o) (ry : RelV y u) (h : ∀ s', Inv X pins σ H s' → Q (.bool o.isSome) s') :
    wpAny (model X.prog X.w) A (compareOp .In u (.ref a)) Q E s := by
  rcases g with g | ⟨ks, q, b, e, hk, rfl, kq, l⟩
  · exact d_in (by omega) I g ry h
  · cases ry
    obtain ⟨hd, z, xs, rel, dd⟩ := nd_of I.hok e hk
    refine wpAny_in_heap (show (nestedKind X.prog X.w).room A.in1 from by show A.in1.units + 8 < cLine; have : A.in1.units = A.units + 1 := rfl; omega) (kq.is I.hok) hd dd ?_
    have q2 := (rel.val q).isSome_eq
    rw [Option.isSome_map] at q2
    rw [← q2, l]
    exact h _ (I.tok _)
theorem g_notIn {Q : Value → Shared → Prop} (hu : A.units + 65 < cLine) (I : Inv X pins σ H s) (g : GGet X.prog X.w H a y o) (ry : RelV y u) (h : ∀ s', Inv X pins σ H s' → Q (.bool (!o.isSome)) s') :
    wpAny (model X.prog X.w) A (compareOp .NotIn u (.ref a)) Q E s := by
  rcases g with g | ⟨ks, q, b, e, hk, rfl, kq, l⟩
  · exact d_notIn (by omega) I g ry h
  · cases ry
    obtain ⟨hd, z, xs, rel, dd⟩ := nd_of I.hok e hk
    refine wpAny_notIn_heap (show (nestedKind X.prog X.w).room A.in1 from by show A.in1.units + 8 < cLine; have : A.in1.units = A.units + 1 := rfl; omega) (kq.is I.hok) hd dd ?_
    have q2 := (rel.val q).isSome_eq
    rw [Option.isSome_map] at q2
    rw [← q2, l]
    exact h _ (I.tok _)
theorem g_setItem {Q : Unit → Shared → Prop} (hu : A.units + 65 < cLine) (I : Inv X pins σ H s) (g : GPut X.prog X.w H a y v H') (ry : RelV y u) (rv : RelV v r) (h : ∀ s', Inv X pins σ H' s' → Q () s') :
    wpAny (model X.prog X.w) A (setItem (.ref a) u r) Q E s := by
  rcases g with g | ⟨ks, q, b, e, hk, rfl, kq, l, rfl⟩
  · exact d_setItem (by omega) I g ry rv h
  · cases ry
    obtain ⟨hd, z, xs, rel, dd⟩ := nd_of I.hok e hk
    have hz : xs.length ≤ sizeLine := by rw [← Paired.length rel]; exact z
    have hl : (putN' ks q b v).length ≤ sizeLine := by have := putN'_len ks q b v; omega
    refine wpAny_setItem_heap (hsz := hz) (show (nestedKind X.prog X.w).room A.in1 from by show A.in1.units + 8 < cLine; have : A.in1.units = A.units + 1 := rfl; omega) (kq.is I.hok) dd fun h' dd' hs => h _ ?_
    have he : ∃ q, h'.get? a = some q := let ⟨q, _, _, hq, _⟩ := dd'; ⟨q, hq⟩
    exact d_write I (by rw [e]; exact True.intro) hs he (nd_new hd hl (rel.put rv) dd')
theorem g_get1 {Q : Value → Shared → Prop} (hu : A.units + 65 < cLine) (I : Inv X pins σ H s) (g : GGet X.prog X.w H a y o) (ry : RelV y u) (h : ∀ w' s', Inv X pins σ H s' → RelV (o.getD .non) w' → Q w' s') :
    wpAny (model X.prog X.w) A (call (.builtin "dict.get") [.ref a, u]) Q E s := by
  rcases g with g | ⟨ks, q, b, e, hk, rfl, kq, l⟩
  · exact d_get1 (by omega) I g ry h
  · cases ry
    obtain ⟨hd, z, xs, rel, dd⟩ := nd_of I.hok e hk
    refine call_meetsIn PySem.F.slot_dict_get dd.typeIs PySem.F.entry_dict_get (PySem.F.args_dict_get_2 _ _) (meetsH_dict_get (nestedKind X.prog X.w) a b hd) ⟨(show (nestedKind X.prog X.w).room A.in1 from by show A.in1.units + 8 < cLine; have : A.in1.units = A.units + 1 := rfl; omega), q, xs, kq.is I.hok, dd, h _ _ (I.tok _) ?_⟩
    rw [← l]
    exact (rel.val q).getD rfl
theorem g_get2 {Q : Value → Shared → Prop} (hu : A.units + 65 < cLine) (I : Inv X pins σ H s) (g : GGet X.prog X.w H a y o) (ry : RelV y u) (rd : RelV d r) (h : ∀ w' s', Inv X pins σ H s' → RelV (o.getD d) w' → Q w' s') :
    wpAny (model X.prog X.w) A (call (.builtin "dict.get") [.ref a, u, r]) Q E s := by
  rcases g with g | ⟨ks, q, b, e, hk, rfl, kq, l⟩
  · exact d_get2 (by omega) I g ry rd h
  · cases ry
    obtain ⟨hd, z, xs, rel, dd⟩ := nd_of I.hok e hk
    refine call_meetsIn PySem.F.slot_dict_get dd.typeIs PySem.F.entry_dict_get (PySem.F.args_dict_get_3 _ _ _) (meetsH_dict_get_default (nestedKind X.prog X.w) a b hd r) ⟨(show (nestedKind X.prog X.w).room A.in1 from by show A.in1.units + 8 < cLine; have : A.in1.units = A.units + 1 := rfl; omega), q, xs, kq.is I.hok, dd, h _ _ (I.tok _) ?_⟩
    rw [← l]
    exact (rel.val q).getD rd
end
/-! ### on data -/
/-- what stands at a key; none outside: the key is of the other kind -/
def dgetD (t : Bool) (kvs : List (D × D)) (k : D) : Option (Option D) := match t with
  | false => match k with
    | .int _ => some ((kvs.find? fun p => decide (p.1 = k)).map (·.2))
    | .str _ => some ((kvs.find? fun p => decide (p.1 = k)).map (·.2))
    | _ => none
  | true => match k with
    | .tup _ => match keyN k with
      | some q => if q.depth ≤ 8 then some ((kvs.find? fun p => decide (keyN p.1 = some q)).map (·.2)) else none
      | none => none
    | _ => none
def dputD (t : Bool) (kvs : List (D × D)) (k v : D) : Option (List (D × D)) := match t with
  | false => match k with
    | .int _ => some (if (kvs.find? fun p => decide (p.1 = k)).isSome then kvs.map fun p => if p.1 = k then (p.1, v) else p else kvs ++ [(k, v)])
    | .str _ => some (if (kvs.find? fun p => decide (p.1 = k)).isSome then kvs.map fun p => if p.1 = k then (p.1, v) else p else kvs ++ [(k, v)])
    | _ => none
  | true => match k with
    | .tup _ => match keyN k with
      | some q => if q.depth ≤ 8 then some (if (kvs.find? fun p => decide (keyN p.1 = some q)).isSome then kvs.map fun p => if keyN p.1 = some q then (p.1, v) else p else kvs ++ [(k, v)]) else none
      | none => none
    | _ => none
section
variable {T : Tb} {M : Mu} {H : Hp} {st : DSto}
theorem keyD_inj {a b : Key} (h : keyD a = keyD b) : a = b := by
  cases a <;> cases b <;> simp_all [keyD]
/-- the entry of a key -/
theorem rk_get (q : Key) : ∀ {kvs : List (D × D)} {ks : List (Key × V)}, RK T M H kvs ks →
    (((kvs.find? fun p => decide (p.1 = keyD q)) = none ∧ valV ks q = none) ∨ ∃ p v, (kvs.find? fun p => decide (p.1 = keyD q)) = some p ∧ valV ks q = some v ∧ RV T M H p.2 v)
  | [], _, r => by simp only [RK] at r; subst r; exact .inl ⟨rfl, rfl⟩
  | (k, d) :: kvs, _, r => by
    simp only [RK] at r
    obtain ⟨g, v, ws, rfl, rfl, r1, r2⟩ := r
    by_cases e : g = q
    · subst e
      exact .inr ⟨(keyD g, d), v, by simp, valV_pos rfl, r1⟩
    · have e2 : ¬ keyD g = keyD q := fun z => e (keyD_inj z)
      rw [valV_neg e, List.find?_cons_of_neg (by simpa using e2)]
      exact rk_get q r2
theorem rn_get (q : NestedKey) : ∀ {kvs : List (D × D)} {ks : List (NestedKey × Addr × V)}, RN T M H kvs ks →
    (((kvs.find? fun p => decide (keyN p.1 = some q)) = none ∧ valN ks q = none) ∨ ∃ p v, (kvs.find? fun p => decide (keyN p.1 = some q)) = some p ∧ valN ks q = some v ∧ RV T M H p.2 v)
  | [], _, r => by simp only [RN] at r; subst r; exact .inl ⟨rfl, rfl⟩
  | (k, d) :: kvs, _, r => by
    simp only [RN] at r
    obtain ⟨g, b, v, ws, rfl, h1, _, _, r1, r2⟩ := r
    by_cases e : g = q
    · subst e
      exact .inr ⟨(k, d), v, by simp [h1], by simp [valN], r1⟩
    · have e2 : ¬ keyN k = some q := fun z => e (Option.some.inj (h1.symm.trans z))
      have := rn_get q r2
      rw [List.find?_cons_of_neg (by simpa using e2)]
      simpa [valN, e] using this
theorem rn_keys : ∀ {kvs : List (D × D)} {ks : List (NestedKey × Addr × V)}, RN T M H kvs ks → ∀ p ∈ ks, NK H p.1 p.2.1
  | [], _, r, p, hp => by simp only [RN] at r; subst r; cases hp
  | (k, d) :: kvs, _, r, p, hp => by
    simp only [RN] at r
    obtain ⟨g, b, v, ws, rfl, h1, h2, h3, r1, r2⟩ := r
    rcases List.mem_cons.mp hp with e | hp
    · subst e; exact ⟨keyN_is h1 h3, h2⟩
    · exact rn_keys r2 p hp
/-- what a dict answers at a key -/
theorem ggetD {x k : D} {t : Bool} {kvs : List (D × D)} {v y : V} {o : Option D} (s : SOk T M H st) (r : RV T M H x v) (q : dctD x st = some (t, kvs)) (ry : RV T M H k y) (h : dgetD t kvs k = some o) :
    ∃ a ov, v = .ref a ∧ GGet T.P T.w H a y ov ∧ ((o = none ∧ ov = none) ∨ ∃ d w, o = some d ∧ ov = some w ∧ RV T M H d w) := by
  obtain ⟨a, rfl, hh⟩ := dctD_of s r q
  rcases hh with ⟨rfl, ks, e, rk⟩ | ⟨rfl, ks, e, rn⟩
  · have fin : ∀ g : Key, k = keyD g → y = kV g → some ((kvs.find? fun p => decide (p.1 = k)).map (·.2)) = some o → ∃ b ov, V.ref a = .ref b ∧ GGet T.P T.w H b y ov ∧ ((o = none ∧ ov = none) ∨ ∃ d w, o = some d ∧ ov = some w ∧ RV T M H d w) := fun g eg ey h => by
      subst eg ey
      cases h
      refine ⟨a, valV ks g, rfl, .inl (.k e), ?_⟩
      rcases rk_get g rk with ⟨h1, h2⟩ | ⟨p, v, h1, h2, h3⟩
      · rw [h1]; exact .inl ⟨rfl, h2⟩
      · rw [h1]; exact .inr ⟨p.2, v, rfl, h2, h3⟩
    cases k with
    | int i => simp only [RV] at ry; exact fin (.inl i) rfl ry h
    | str i => simp only [RV] at ry; exact fin (.inr i) rfl ry h
    | _ => cases h
  · unfold dgetD at h
    cases k with
    | tup xs =>
      dsimp only at h
      cases qk : keyN (.tup xs) with
      | none => rw [qk] at h; cases h
      | some g =>
        rw [qk] at h
        dsimp only at h
        by_cases hd : g.depth ≤ 8
        · rw [if_pos hd] at h
          cases h
          have ki := keyN_is qk ry
          simp only [RV] at ry
          obtain ⟨b, vs, rfl, _⟩ := ry
          refine ⟨a, valN ks g, rfl, .inr ⟨ks, g, b, e, rn_keys rn, rfl, ⟨ki, hd⟩, rfl⟩, ?_⟩
          rcases rn_get g rn with ⟨h1, h2⟩ | ⟨p, v, h1, h2, h3⟩
          · rw [h1]; exact .inl ⟨rfl, h2⟩
          · rw [h1]; exact .inr ⟨p.2, v, rfl, h2, h3⟩
        · rw [if_neg hd] at h; cases h
    | _ => cases h
theorem rk_map (q : Key) {d : D} {v : V} (r : RV T M H d v) : ∀ {kvs : List (D × D)} {ks : List (Key × V)}, RK T M H kvs ks → RK T M H (kvs.map fun p => if p.1 = keyD q then (p.1, d) else p) (ks.map fun kv => if kv.1 = q then (kv.1, v) else kv)
  | [], _, rk => by simp only [RK] at rk; subst rk; simp [RK]
  | (k, e) :: kvs, _, rk => by
    simp only [RK] at rk
    obtain ⟨g, w, ws, rfl, rfl, r1, r2⟩ := rk
    simp only [List.map_cons]
    by_cases e : g = q
    · subst e
      simp only [if_true, RK]
      exact ⟨g, v, _, rfl, rfl, r, rk_map g r r2⟩
    · have e2 : ¬ keyD g = keyD q := fun z => e (keyD_inj z)
      simp only [e, e2, if_false, RK]
      exact ⟨g, w, _, rfl, rfl, r1, rk_map q r r2⟩
theorem rk_snoc {q : Key} {d : D} {v : V} (r : RV T M H d v) : ∀ {kvs : List (D × D)} {ks : List (Key × V)}, RK T M H kvs ks → RK T M H (kvs ++ [(keyD q, d)]) (ks ++ [(q, v)])
  | [], _, rk => by simp only [RK] at rk; subst rk; simp only [List.nil_append, RK]; exact ⟨q, v, [], rfl, rfl, r, rfl⟩
  | (k, e) :: kvs, _, rk => by
    simp only [RK] at rk
    obtain ⟨g, w, ws, rfl, rfl, r1, r2⟩ := rk
    simp only [List.cons_append, RK]
    exact ⟨g, w, _, rfl, rfl, r1, rk_snoc r r2⟩
theorem rn_map (q : NestedKey) {d : D} {v : V} (r : RV T M H d v) : ∀ {kvs : List (D × D)} {ks : List (NestedKey × Addr × V)}, RN T M H kvs ks → RN T M H (kvs.map fun p => if keyN p.1 = some q then (p.1, d) else p) (ks.map fun p => if p.1 = q then (p.1, p.2.1, v) else p)
  | [], _, rk => by simp only [RN] at rk; subst rk; simp [RN]
  | (k, e) :: kvs, _, rk => by
    simp only [RN] at rk
    obtain ⟨g, b, w, ws, rfl, h1, h2, h3, r1, r2⟩ := rk
    simp only [List.map_cons]
    by_cases e : g = q
    · subst e
      rw [if_pos h1, if_pos rfl]
      simp only [RN]
      exact ⟨g, b, v, _, rfl, h1, h2, h3, r, rn_map g r r2⟩
    · have e2 : ¬ keyN k = some q := fun z => e (Option.some.inj (h1.symm.trans z))
      rw [if_neg e2, if_neg e]
      simp only [RN]
      exact ⟨g, b, w, _, rfl, h1, h2, h3, r1, rn_map q r r2⟩
theorem rn_snoc {q : NestedKey} {k d : D} {b : Addr} {v : V} (h1 : keyN k = some q) (h2 : q.depth ≤ 8) (h3 : RV T M H k (.ref b)) (r : RV T M H d v) : ∀ {kvs : List (D × D)} {ks : List (NestedKey × Addr × V)}, RN T M H kvs ks → RN T M H (kvs ++ [(k, d)]) (ks ++ [(q, b, v)])
  | [], _, rk => by simp only [RN] at rk; subst rk; simp only [List.nil_append, RN]; exact ⟨q, b, v, [], rfl, h1, h2, h3, r, rfl⟩
  | (k, e) :: kvs, _, rk => by
    simp only [RN] at rk
    obtain ⟨g, b, w, ws, rfl, h4, h5, h6, r1, r2⟩ := rk
    simp only [List.cons_append, RN]
    exact ⟨g, b, w, _, rfl, h4, h5, h6, r1, rn_snoc h1 h2 h3 r r2⟩
/-- d[k] = v on a dict of the store -/
theorem gputD {n : Nat} {k dv : D} {t : Bool} {kvs kvs' : List (D × D)} {v y z : V} (s : SOk T M H st) (r : RV T M H (.ref n) v) (q : st[n]? = some (.dct t kvs)) (ry : RV T M H k y) (rz : RV T M H dv z) (hl : kvs.length < sizeLine) (h : dputD t kvs k dv = some kvs') :
    ∃ a H', v = .ref a ∧ GPut T.P T.w H a y z H' ∧ SOk T M H' (st.set n (.dct t kvs')) ∧ Ex M H M H' := by
  simp only [RV] at r
  obtain ⟨a, rfl, e1⟩ := r
  have ma := List.mem_of_getElem? e1
  rcases s.ro n _ a q e1 with ⟨rfl, ks, e, rk⟩ | ⟨rfl, ks, e, rn⟩
  · have fin : ∀ g : Key, k = keyD g → y = kV g → (if (kvs.find? fun p => decide (p.1 = k)).isSome then kvs.map fun p => if p.1 = k then (p.1, dv) else p else kvs ++ [(k, dv)]) = kvs' → ∃ b H', V.ref a = .ref b ∧ GPut T.P T.w H b y z H' ∧ SOk T M H' (st.set n (.dct false kvs')) ∧ Ex M H M H' := fun g eg ey h => by
      subst eg ey
      have x3 : Ex M H M (upd H a (.dK (putK ks g z))) := ex_write ma
      refine ⟨a, _, rfl, .inl (.k e (by rw [rk.len]; exact hl)), sok_write s e1 (.inl ⟨rfl, _, upd_same, ?_⟩), x3⟩
      have rk2 := rk.mo x3.mo
      have rz2 := rz.ex x3
      subst h
      revert rk2 rz2
      generalize upd H a (.dK (putK ks g z)) = H2
      intro rk2 rz2
      unfold putK
      rw [valV_any]
      rcases rk_get g rk with ⟨h1, h2⟩ | ⟨p, w, h1, h2, h3⟩
      · rw [h1, h2]; exact rk_snoc rz2 rk2
      · rw [h1, h2]; exact rk_map g rz2 rk2
    cases k with
    | int i => simp only [RV] at ry; exact fin (.inl i) rfl ry (Option.some.inj h)
    | str i => simp only [RV] at ry; exact fin (.inr i) rfl ry (Option.some.inj h)
    | _ => cases h
  · unfold dputD at h
    cases k with
    | tup xs =>
      dsimp only at h
      cases qk : keyN (.tup xs) with
      | none => rw [qk] at h; cases h
      | some g =>
        rw [qk] at h
        dsimp only at h
        by_cases hd : g.depth ≤ 8
        · rw [if_pos hd] at h
          have ki := keyN_is qk ry
          have ry' := ry
          simp only [RV] at ry'
          obtain ⟨b, vs, rfl, _⟩ := ry'
          have x3 : Ex M H M (upd H a (.ext (NdO T.P T.w a (putN' ks g b z)))) := ex_write ma
          refine ⟨a, _, rfl, .inr ⟨ks, g, b, e, rn_keys rn, rfl, ⟨ki, hd⟩, by rw [rn.len]; exact hl, rfl⟩, sok_write s e1 (.inr ⟨rfl, _, upd_same, ?_⟩), x3⟩
          have rn2 := rn.mo x3.mo
          have rz2 := rz.ex x3
          have ry2 := ry.ex x3
          have h := Option.some.inj h
          subst h
          revert rn2 rz2 ry2
          generalize upd H a (.ext (NdO T.P T.w a (putN' ks g b z))) = H2
          intro rn2 rz2 ry2
          unfold putN'
          rcases rn_get g rn with ⟨h1, h2⟩ | ⟨p, w, h1, h2, h3⟩
          · rw [h1, h2]; exact rn_snoc qk hd ry2 rz2 rn2
          · rw [h1, h2]; exact rn_map g rz2 rn2
        · rw [if_neg hd] at h; cases h
    | _ => cases h
end

/-! ### the operators -/
def ixO : OpD := fun x y st => match dctD x st with
  | some (t, kvs) => match dgetD t kvs y with
    | some (some v) => some (v, st)
    | _ => none
  | none => ixS x y st
def inO : OpD := fun x y st => match dctD y st with
  | some (t, kvs) => (dgetD t kvs x).map fun o => (.bl o.isSome, st)
  | none => memO false x y st
def ninO : OpD := fun x y st => match dctD y st with
  | some (t, kvs) => (dgetD t kvs x).map fun o => (.bl (!o.isSome), st)
  | none => memO true x y st
def lenO : OpL := fun ds st => match ds with
  | [x] => match dctD x st with
    | some (_, kvs) => some (.int kvs.length, st)
    | none => lenS ds st
  | _ => none
def setO : SetD := fun o i v st => match o with
  | .ref n => match st[n]? with
    | some (.dct t kvs) => if kvs.length < sizeLine then (dputD t kvs i v).map fun kvs' => st.set n (.dct t kvs') else none
    | _ => setLO o i v st
  | _ => none
/-- the table's program and world -/
def TW (P : Program) (w : World) (T : Tb) : Prop := T.P = P ∧ T.w = w
/-- the context's program and world are the table's -/
structure Fit2 (X : Cx) (T : Tb) : Prop where
  K : X.K = T.K
  P : X.prog = T.P
  w : X.w = T.w
section
variable {X : Cx} {T : Tb} {W : WX} {a b : Expr} {da db : Den} {pos : Pos}
theorem ixx' (h2 : Fit2 X T) (hu : X.A.units + 65 < cLine) : IxR X (rD T ixO) := fun value slice pins s σ H x y v u Q I rx ry ⟨M, d, e, st, so, r1, r2, h⟩ hs => by
  unfold ixO at h
  cases q : dctD d st with
  | none => rw [q] at h; exact ixx h2.K value slice pins s σ H x y v u Q I rx ry ⟨M, d, e, st, so, r1, r2, h⟩ hs
  | some p =>
    obtain ⟨t, kvs⟩ := p
    rw [q] at h
    dsimp only at h
    cases q2 : dgetD t kvs e with
    | none => rw [q2] at h; exact h.elim
    | some o =>
      obtain ⟨ad, ov, rfl, g, hh⟩ := ggetD so r1 q r2 q2
      rw [← h2.P, ← h2.w] at g
      rw [q2] at h
      rcases hh with ⟨rfl, _⟩ | ⟨dv, w, rfl, rfl, rw'⟩
      · exact h.elim
      · cases rx
        have gt : s.TypeIs (.ref ad) "dict" := by
          rcases g with g | ⟨ks, q, b, e, hk, _⟩
          · exact dict_typeIs I g
          · obtain ⟨_, _, xs, _, dd⟩ := nd_of I.hok e hk
            exact dd.typeIs
        exact tail_any gt slot_dict_getitem.lookup (g_getItem hu I g ry fun w' s' I' rw2 => ⟨w, H, I', rw2, PostO.fin so rw' h⟩) hs
theorem px_ix (h2 : Fit2 X T) (hu : X.A.units + 65 < cLine) (ha : PX X T W a da) (hb : PX X T W b db) (hs : PlainIx b := by exact fun _ _ => rfl) : PX X T W (.Subscript a b pos) (dOp ixO da db) :=
  pe_imp (pe_ix (ixx' h2 hu) ha hb hs) fun _ _ _ h => tOp_of h
theorem ox_in' (h2 : Fit2 X T) (hu : X.A.units + 65 < cLine) : OpX X T (compareOp .In) inO := fun pins s σ H x y v u Q I rx ry ⟨M, d, e, st, so, r1, r2, h⟩ => by
  unfold inO at h
  cases q : dctD e st with
  | none => rw [q] at h; exact ox_in h2.K hu pins s σ H x y v u Q I rx ry ⟨M, d, e, st, so, r1, r2, h⟩
  | some p =>
    obtain ⟨t, kvs⟩ := p
    rw [q] at h
    dsimp only at h
    cases q2 : dgetD t kvs d with
    | none => rw [q2] at h; exact h.elim
    | some o =>
      obtain ⟨ad, ov, rfl, g, hh⟩ := ggetD so r2 q r1 q2
      rw [← h2.P, ← h2.w] at g
      rw [q2] at h
      cases ry
      refine g_in hu I g rx fun s' I' => ⟨.bl ov.isSome, H, I', rfl, ?_⟩
      have e2 : ov.isSome = o.isSome := by
        rcases hh with ⟨rfl, rfl⟩ | ⟨dv, w, rfl, rfl, _⟩ <;> rfl
      rw [e2]
      exact PostO.fin so (by simp [RV]) h
theorem ox_nin' (h2 : Fit2 X T) (hu : X.A.units + 65 < cLine) : OpX X T (compareOp .NotIn) ninO := fun pins s σ H x y v u Q I rx ry ⟨M, d, e, st, so, r1, r2, h⟩ => by
  unfold ninO at h
  cases q : dctD e st with
  | none => rw [q] at h; exact ox_nin h2.K hu pins s σ H x y v u Q I rx ry ⟨M, d, e, st, so, r1, r2, h⟩
  | some p =>
    obtain ⟨t, kvs⟩ := p
    rw [q] at h
    dsimp only at h
    cases q2 : dgetD t kvs d with
    | none => rw [q2] at h; exact h.elim
    | some o =>
      obtain ⟨ad, ov, rfl, g, hh⟩ := ggetD so r2 q r1 q2
      rw [← h2.P, ← h2.w] at g
      rw [q2] at h
      cases ry
      refine g_notIn hu I g rx fun s' I' => ⟨.bl (!ov.isSome), H, I', rfl, ?_⟩
      have e2 : ov.isSome = o.isSome := by
        rcases hh with ⟨rfl, rfl⟩ | ⟨dv, w, rfl, rfl, _⟩ <;> rfl
      rw [e2]
      exact PostO.fin so (by simp [RV]) h
/-- len(d) of a dict whose keys are tuples -/
theorem call_len_N {X : Cx} : CallR X (.builtin "len") (fun xs H Q => ∃ a ks, xs = [V.ref a] ∧ H a = some (.ext (NdO X.prog X.w a ks)) ∧ (∀ p ∈ ks, NK H p.1 p.2.1) ∧ Q (.int ks.length) H) := by
  intro pins s σ H xs us Q I r h
  obtain ⟨a, ks, rfl, e, hk, q⟩ := h
  obtain ⟨u, rfl, ru⟩ := vals1 r
  obtain rfl : u = Value.ref a := ru
  obtain ⟨hd, z, ys, rel, dd⟩ := nd_of I.hok e hk
  have hl : ks.length = ys.length := Paired.length rel
  refine call_len_dictH hd dd (by rw [← hl]; rw [sizeLine_eq] at z; omega) ?_
  rw [← hl]
  exact ⟨.int ((ks.length : Nat) : Int), H, I.tok _, ⟨_, rfl⟩, q⟩
theorem cx_len (h2 : Fit2 X T) : CallX X T (.builtin "len") lenO := fun pins s σ H xs us Q I r ⟨M, ds, st, so, rv, h⟩ => by
  unfold lenO at h
  split at h
  · rename_i x
    cases q : dctD x st with
    | none => simp only [q] at h; exact cx_lenS h2.K pins s σ H xs us Q I r ⟨M, _, st, so, rv, h⟩
    | some p =>
      obtain ⟨t, kvs⟩ := p
      simp only [q] at h
      obtain ⟨y, rfl, r1⟩ := rvs1 rv
      obtain ⟨a, rfl, ⟨_, ks, e, rk⟩ | ⟨_, ks, e, rn⟩⟩ := dctD_of so r1 q
      · exact call_lenD pins s σ H _ us Q I r ⟨a, ks, rfl, e, by rw [rk.len]; exact PostO.fin so (by simp [RV]) h⟩
      · rw [← h2.P, ← h2.w] at e
        exact call_len_N pins s σ H _ us Q I r ⟨a, ks, rfl, e, rn_keys rn, by rw [rn.len]; exact PostO.fin so (by simp [RV]) h⟩
  · exact h.elim
theorem sx_set (h2 : Fit2 X T) (hu : X.A.units + 65 < cLine) : SetX X T setO := fun pins s σ H o i v ov iv u Q I ro ri rv ⟨M, od, id, d, st, so, r1, r2, r3, h⟩ => by
  unfold setO at h
  cases od with
  | ref n =>
    dsimp only at h
    cases q : st[n]? with
    | none => simp only [q] at h; exact sx_lst pins s σ H o i v ov iv u Q I ro ri rv ⟨M, .ref n, id, d, st, so, r1, r2, r3, h⟩
    | some ob =>
      cases ob with
      | dct t kvs =>
        simp only [q] at h
        by_cases hl : kvs.length < sizeLine
        · rw [if_pos hl] at h
          cases q2 : dputD t kvs id d with
          | none => rw [q2] at h; exact h.elim
          | some kvs' =>
            rw [q2] at h
            obtain ⟨a, H', rfl, g, s', x⟩ := gputD so r1 q r2 r3 hl q2
            rw [← h2.P, ← h2.w] at g
            cases ro
            exact g_setItem hu I g ri rv fun s'' I' => ⟨H', I', h M H' s' x⟩
        · rw [if_neg hl] at h; exact h.elim
      | _ => simp only [q] at h; exact sx_lst pins s σ H o i v ov iv u Q I ro ri rv ⟨M, .ref n, id, d, st, so, r1, r2, r3, h⟩
  | _ => exact h.elim
end
end FV

set_option Elab.async false
set_option linter.all false
set_option maxRecDepth 100000
set_option maxHeartbeats 4000000
namespace FV
open PySem PySem.Spec PyProof.Rows L2

/-! ### evaluation, step by step -/
section
variable {α : Type} {ρ : DEnv} {st : DSto} {a b c d : Den} {t u : DenT} {s s1 : DenS} {es fs : DenA} {G : FnD} {n N i j k : Nat} {f g : OpD} {ds : List D} {x y : D} {di : DenI} {tg : DenG} {sf : SetD} {ol : OpL}
@[simp] theorem dSeq_ap : dSeq s s1 ρ st = (s ρ st).andThen s1 := id rfl
@[simp] theorem dSkip_ap : dSkip ρ st = .nx ρ st := id rfl
@[simp] theorem dBreak_ap : dBreak ρ st = .bk ρ st := id rfl
@[simp] theorem dCont_ap : dCont ρ st = .ct ρ st := id rfl
@[simp] theorem dExpr_ap : dExpr d ρ st = (d ρ st).toS ρ fun _ st => .nx ρ st := id rfl
@[simp] theorem dRet_ap : dRet d ρ st = (d ρ st).toS ρ fun x st => .rt x st := id rfl
@[simp] theorem dRetN_ap : dRetN ρ st = .rt .non st := id rfl
@[simp] theorem dIfS_ap : dIfS t s s1 ρ st = (t ρ st).toS ρ fun k st => if k = true then s ρ st else s1 ρ st := id rfl
@[simp] theorem dAsg_ap : dAsg i d ρ st = (d ρ st).toS ρ fun x st => .nx (ρ.set i (some x)) st := id rfl
@[simp] theorem dAsgG_ap : dAsgG d tg ρ st = (d ρ st).toS ρ fun x st => match tg x ρ st with
  | some (ρ', st') => .nx ρ' st'
  | none => .bad := id rfl
@[simp] theorem gdName_ap : gdName i x ρ st = some (ρ.set i (some x), st) := id rfl
@[simp] theorem gdSub_ap : gdSub a b sf x ρ st = match a ρ st with
  | .ok x1 st1 => match b ρ st1 with
    | .ok y st2 => match sf x1 y x st2 with
      | some st3 => some (ρ, st3)
      | none => none
    | _ => none
  | _ => none := id rfl
@[simp] theorem dAug_ap : dAug i d f ρ st = match ρ[i]? with
  | some (some x) => (d ρ st).toS ρ fun y st => match f x y st with
    | some (z, st) => .nx (ρ.set i (some z)) st
    | none => .bad
  | _ => .bad := id rfl
@[simp] theorem dFor_ap {pop : Bool} {ws : List Nat} : dFor pop ws di tg s ρ st = (di ρ st).toS ρ fun p st => forL pop ws p.2 tg s p.1 (wipeE ρ ws) st := id rfl
@[simp] theorem dWhile_ap {pop : Bool} {ws : List Nat} : dWhile n pop ws t s ρ st = whileL pop ws t s n (wipeE ρ ws) st := id rfl
@[simp] theorem dVar_ap : dVar i ρ st = match ρ[i]? with
  | some (some d) => .ok d st
  | _ => .bad := id rfl
@[simp] theorem dC_ap : dC x ρ st = .ok x st := id rfl
@[simp] theorem dOp_ap : dOp f a b ρ st = (a ρ st).bind fun x st => (b ρ st).bind fun y st => ofO (f x y st) := id rfl
@[simp] theorem dB_ap : dB d ρ st = (d ρ st).bind fun x st => match x with
  | .bl b => .ok b st
  | _ => .bad := id rfl
@[simp] theorem dChain_ap : dChain f g a b c ρ st = (a ρ st).bind fun x st => (b ρ st).bind fun y st => (ofO (f x y st)).bind fun k st => match k with
  | .bl true => (c ρ st).bind fun z st => ofO (g y z st)
  | .bl false => .ok (.bl false) st
  | _ => .bad := id rfl
@[simp] theorem ofO_some : ofO (some (x, st)) = .ok x st := id rfl
@[simp] theorem ofO_none : ofO (none : Option (α × DSto)) = .bad := id rfl
@[simp] theorem dAnd_ap : dAnd t u ρ st = (t ρ st).bind fun x st => if x = true then u ρ st else .ok false st := id rfl
@[simp] theorem dOr_ap : dOr t u ρ st = (t ρ st).bind fun x st => if x = true then .ok true st else u ρ st := id rfl
@[simp] theorem dNot_ap : dNot t ρ st = (t ρ st).bind fun x st => .ok (!x) st := id rfl
@[simp] theorem dIf_ap : dIf t a b ρ st = (t ρ st).bind fun x st => if x = true then a ρ st else b ρ st := id rfl
@[simp] theorem dAndV_ap : dAndV a b ρ st = (a ρ st).bind fun x st => match x with
  | .bl true => b ρ st
  | .bl false => .ok (.bl false) st
  | _ => .bad := id rfl
@[simp] theorem dOrV_ap : dOrV a b ρ st = (a ρ st).bind fun x st => match x with
  | .bl true => .ok (.bl true) st
  | .bl false => b ρ st
  | _ => .bad := id rfl
@[simp] theorem dNotV_ap : dNotV a ρ st = (a ρ st).bind fun x st => match x with
  | .bl b => .ok (.bl (!b)) st
  | _ => .bad := id rfl
@[simp] theorem dNil_ap : dNil ρ st = .ok [] st := id rfl
@[simp] theorem dCons_ap : dCons a es ρ st = (a ρ st).bind fun x st => (es ρ st).bind fun xs st => .ok (x :: xs) st := id rfl
@[simp] theorem dStar_ap : dStar a es ρ st = (a ρ st).bind fun x st => match itemsD x st with
  | some ys => (es ρ st).bind fun xs st => .ok (ys ++ xs) st
  | none => .bad := id rfl
@[simp] theorem dTup_ap : dTup es ρ st = (es ρ st).bind mkTup := id rfl
@[simp] theorem dLst_ap : dLst es ρ st = (es ρ st).bind mkLst := id rfl
@[simp] theorem dLstV_ap : dLstV es ρ st = (es ρ st).bind mkLstV := id rfl
@[simp] theorem dMakeV_ap : dMakeV n G es ρ st = (es ρ st).bind fun ds st => mkObjV n G ds st := id rfl
@[simp] theorem dCall_ap : dCall G es ρ st = (es ρ st).bind G := id rfl
@[simp] theorem dMake_ap : dMake n G es ρ st = (es ρ st).bind fun ds st => mkObj n G ds st := id rfl
@[simp] theorem dMeth_ap : dMeth n G a es ρ st = (a ρ st).bind fun x st => if isIns n x st = true then (es ρ st).bind fun ds st => G (x :: ds) st else .bad := id rfl
@[simp] theorem dProp_ap : dProp n G a ρ st = (a ρ st).bind fun x st => if isIns n x st = true then (match G [x] st with
  | .ok d st => .ok d st
  | _ => .bad) else .bad := id rfl
@[simp] theorem dFld_ap : dFld i a ρ st = (a ρ st).bind (fldD i) := id rfl
@[simp] theorem dSetF_ap : dSetF n i a d ρ st = (d ρ st).toS ρ fun y st => (a ρ st).toS ρ fun x st => match setFld n i x y st with
  | some st => .nx ρ st
  | none => .bad := id rfl
@[simp] theorem dB'_ap : dB' ol es ρ st = (es ρ st).bind fun ds st => ofO (ol ds st) := id rfl
@[simp] theorem dApp_ap : dApp a b ρ st = (a ρ st).bind fun x st => match x with
  | .ref n => match st[n]? with
    | some (.lst _) => (b ρ st).bind fun y st => match st[n]? with
      | some (.lst xs) => if xs.length < sizeLine then .ok .non (st.set n (.lst (xs ++ [y]))) else .bad
      | _ => .bad
    | _ => .bad
  | _ => .bad := id rfl
@[simp] theorem dJoin_ap : dJoin a b ρ st = (a ρ st).bind fun x st => match x with
  | .str z => (b ρ st).bind fun y st => ofO (joinO (.str z) y st)
  | _ => .bad := id rfl
@[simp] theorem dPart_none : dPart none ρ st = .ok none st := id rfl
@[simp] theorem dPart_some : dPart (some d) ρ st = (d ρ st).bind fun x st => match x with
    | .int i => .ok (some i) st
    | _ => .bad := id rfl
@[simp] theorem dSl_ap {lo hi : Option Den} : dSl d lo hi ρ st = (d ρ st).bind fun x st => (dPart lo ρ st).bind fun l st => (dPart hi ρ st).bind fun h st => ofO (slO x l h st) := id rfl
@[simp] theorem dISeq_ap : dISeq d ρ st = (d ρ st).bind fun x st => match x with
  | .tup xs => .ok (xs, []) st
  | .lst xs => .ok (xs, []) st
  | .ref n => match st[n]? with
    | some (.lst xs) => .ok (xs, [(n, .lst xs)]) st
    | _ => .bad
  | .scr ns => .ok (ns.map D.int, []) st
  | _ => .bad := id rfl
/-- the numbers that a range counts -/
def rngO (x y : D) (st : DSto) : DRes (List D × Chk) := match x, y with
  | .int i, .int j => if -(2 ^ 62) ≤ i ∧ i < 2 ^ 62 ∧ -(2 ^ 62) ≤ j ∧ j < 2 ^ 62 then .ok (rngD i (j - i).toNat, []) st else .bad
  | _, _ => .bad
@[simp] theorem dIRng1_ap : dIRng1 d ρ st = (d ρ st).bind fun x st => rngO (.int 0) x st := by
  show (d ρ st).bind _ = _
  congr 1
  funext x st
  unfold rngO
  cases x with
  | int j =>
    dsimp only
    by_cases h : -(2 ^ 62) ≤ j ∧ j < 2 ^ 62
    · rw [if_pos h, if_pos ⟨by decide, by decide, h⟩, Int.sub_zero]
    · rw [if_neg h, if_neg fun z => h z.2.2]
  | _ => rfl
@[simp] theorem dIRng2_ap : dIRng2 a b ρ st = (a ρ st).bind fun x st => (b ρ st).bind fun y st => rngO x y st := id rfl
theorem rngO_nat {i j : Int} (h0 : -1000000 ≤ i) (h1 : i ≤ 1000000000) (h2 : -1000000 ≤ j) (h3 : j ≤ 1000000000) : rngO (.int i) (.int j) st = .ok (rngD i (j - i).toNat, []) st :=
  if_pos ⟨by omega, by omega, by omega, by omega⟩
theorem rngD_eq (n : Nat) : rngD 0 n = (List.range n).map fun k : Nat => D.int (k : Int) := by
  apply List.ext_getElem?
  intro i
  by_cases h : i < n
  · rw [rngD_get n 0 i h]; simp [h]
  · rw [List.getElem?_eq_none (by rw [rngD_len]; omega), List.getElem?_eq_none (by simp; omega)]
/-- range(n) -/
theorem rngO_0 {n : Nat} (h : n ≤ 1000000) : rngO (.int 0) (.int (n : Int)) st = .ok ((List.range n).map fun k : Nat => D.int (k : Int), []) st := by
  rw [rngO_nat (by decide) (by decide) (by omega) (by omega), Int.sub_zero, Int.toNat_natCast, rngD_eq]
@[simp] theorem dIOwn_ap : dIOwn n i d ρ st = (d ρ st).bind fun x st => if isIns n x st = true then (match fldD i x st with
  | .ok y st => match iterL y st with
    | some p => .ok p st
    | none => .bad
  | _ => .bad) else .bad := id rfl
@[simp] theorem dIsTy_ap {ty : String} : dIsTy ty d ρ st = (d ρ st).bind fun x st => match tyName x st with
  | some a => match kitB a ty with
    | some b => .ok (.bl b) st
    | none => .bad
  | none => .bad := id rfl
@[simp] theorem dIsC_ap {b : Bool} : dIsC n b d ρ st = (d ρ st).bind fun x st => if isIns n x st = true then .ok (.bl b) st else .bad := id rfl
@[simp] theorem dLcB_ap {v : Bool} {vs : List Nat} {step : DEnv → List D → DSto → Option (List D × DSto)} : dLcB v di vs tg step ρ st = (di ρ st).bind fun p st1 => match compL p.2 vs tg step ρ p.1 [] st1 with
  | some (xs, st') => lcEnd v xs st'
  | none => .bad := id rfl
@[simp] theorem lcEnd_t {xs : List D} : lcEnd true xs st = .ok (.lst xs) st := id rfl
@[simp] theorem lcEnd_f {xs : List D} : lcEnd false xs st = .ok (.ref st.length) (st ++ [.lst xs]) := id rfl
@[simp] theorem wipeE_nil {ρ : DEnv} : wipeE ρ [] = ρ := id rfl
@[simp] theorem wipeE_cons {ρ : DEnv} {v : Nat} {vs : List Nat} : wipeE ρ (v :: vs) = (wipeE ρ vs).set v none := id rfl
@[simp] theorem chkB_nil {st : DSto} : chkB [] st = true := id rfl
@[simp] theorem chkB_cons {st : DSto} {p : Nat × DObj} {c : Chk} : chkB (p :: c) st = (decide (st[p.1]? = some p.2) && chkB c st) := id rfl
@[simp] theorem stepE_ap {t : DenT} {e : Den} {ρ : DEnv} {acc : List D} {st : DSto} : stepE t e ρ acc st = match t ρ st with
  | .ok true st2 => match e ρ st2 with
    | .ok y st3 => if acc.length < sizeLine then some (acc ++ [y], st3) else none
    | _ => none
  | .ok false st2 => some (acc, st2)
  | _ => none := id rfl
@[simp] theorem stepC_ap {t : DenT} {di : DenI} {vs : List Nat} {g : DenG} {step : DEnv → List D → DSto → Option (List D × DSto)} {ρ : DEnv} {acc : List D} {st : DSto} : stepC t di vs g step ρ acc st = match t ρ st with
  | .ok true st2 => match di ρ st2 with
    | .ok (src, chk) st3 => compL chk vs g step ρ src acc st3
    | _ => none
  | .ok false st2 => some (acc, st2)
  | _ => none := id rfl
@[simp] theorem turnE_f {ws : List Nat} {ρ ρ2 : DEnv} {st st2 : DSto} : turnE false ws ρ st ρ2 st2 = some (wipeE ρ2 ws, st2) := id rfl
@[simp] theorem dSetF_ap' {od ed : Den} {c i : Nat} {ρ : DEnv} {st : DSto} : dSetF c i od ed ρ st = (ed ρ st).toS ρ fun y st => (od ρ st).toS ρ fun x st => match setFld c i x y st with
  | some st => .nx ρ st
  | none => .bad := id rfl
@[simp] theorem dYes_ap : dYes ρ st = .ok true st := id rfl
theorem bodyF_ap (h : ds.length = n) : bodyF n N s ds st = match s (ds.map some ++ List.replicate (N - ds.length) none) st with
  | .nx _ st' => .ok .non st'
  | .rt d st' => .ok d st'
  | .exc c fs _ st' => .exc c fs st'
  | _ => .bad := if_pos h
end

/-! ### lists by place -/
theorem atI_nat {α : Type} (xs : List α) (n : Nat) : atI xs (n : Int) = xs[n]? := by
  unfold atI ixN
  by_cases h : n < xs.length
  · rw [if_pos (by omega), if_pos (by omega)]; simp
  · rw [if_pos (by omega), if_neg (by omega)]; simp [List.getElem?_eq_none (by omega : xs.length ≤ n)]
@[simp] theorem atI_0 {α : Type} (xs : List α) : atI xs 0 = xs[0]? := atI_nat xs 0
@[simp] theorem atI_1 {α : Type} (xs : List α) : atI xs 1 = xs[1]? := atI_nat xs 1
@[simp] theorem atI_2 {α : Type} (xs : List α) : atI xs 2 = xs[2]? := atI_nat xs 2
@[simp] theorem atI_3 {α : Type} (xs : List α) : atI xs 3 = xs[3]? := atI_nat xs 3
@[simp] theorem atI_4 {α : Type} (xs : List α) : atI xs 4 = xs[4]? := atI_nat xs 4
theorem ixN_nat {n k : Nat} (h : k < n) : ixN n (k : Int) = some k := by
  unfold ixN; rw [if_pos (by omega), if_pos (by omega)]; simp
theorem atI_in {α : Type} {xs : List α} {i : Int} (h0 : 0 ≤ i) (h1 : i < xs.length) : ∃ x, atI xs i = some x ∧ x ∈ xs := by
  obtain ⟨n, rfl⟩ := Int.eq_ofNat_of_zero_le h0
  have hn : n < xs.length := by omega
  exact ⟨xs[n], by show atI xs (n : Int) = _; rw [atI_nat, List.getElem?_eq_getElem hn], List.getElem_mem hn⟩
@[simp] theorem kitB_bool : kitB "bool" "bool" = some true := by decide +kernel

@[simp] theorem reify_int (st : DSto) (i : Int) : reify st (.int i) = some (.int i) := id rfl
@[simp] theorem reify_bl (st : DSto) (i : Bool) : reify st (.bl i) = some (.bool i) := id rfl
@[simp] theorem reify_str (st : DSto) (i : Str) : reify st (.str i) = some (.str i) := id rfl
@[simp] theorem reify_non (st : DSto) : reify st .non = some .none := id rfl
@[simp] theorem shaped_int (i : Int) : SeqAt.shaped (.int i) = true := id rfl
@[simp] theorem shaped_bl (i : Bool) : SeqAt.shaped (.bool i) = true := id rfl
@[simp] theorem shaped_non : SeqAt.shaped .none = true := id rfl
@[simp] theorem eqO_int (st : DSto) (i j : Int) : eqO (.int i) (.int j) st = some (.bl (i == j), st) := id rfl
@[simp] theorem neO_int (st : DSto) (i j : Int) : neO (.int i) (.int j) st = some (.bl (!(i == j)), st) := id rfl
@[simp] theorem eqO_bl (st : DSto) (i j : Bool) : eqO (.bl i) (.bl j) st = some (.bl (i == j), st) := id rfl
@[simp] theorem neO_bl (st : DSto) (i j : Bool) : neO (.bl i) (.bl j) st = some (.bl (!(i == j)), st) := id rfl
@[simp] theorem addO_int (st : DSto) (i j : Int) : addO (.int i) (.int j) st = some (.int (i + j), st) := id rfl
@[simp] theorem subO_int (st : DSto) (i j : Int) : subO (.int i) (.int j) st = some (.int (i - j), st) := id rfl
@[simp] theorem iaddO_int (st : DSto) (i j : Int) : iaddO (.int i) (.int j) st = some (.int (i + j), st) := id rfl
@[simp] theorem cmpI_int (f : Int → Int → Bool) (st : DSto) (i j : Int) : cmpI f (.int i) (.int j) st = some (.bl (f i j), st) := id rfl
theorem addO_str (st : DSto) {a b : Str} (h : a.length + b.length ≤ sizeLine) : addO (.str a) (.str b) st = some (.str (a ++ b), st) := by
  unfold addO
  dsimp only
  rw [if_pos h]
theorem mulO_int (st : DSto) (i j : Int) : mulO (.int i) (.int j) st = if (-(2 ^ 64) < i ∧ i < 2 ^ 64) ∨ (-(2 ^ 64) < j ∧ j < 2 ^ 64) then some (.int (i * j), st) else none := rfl
theorem modO_int (st : DSto) {i j : Int} (h : 0 < j) : modO (.int i) (.int j) st = some (.int (i % j), st) := if_pos h
theorem fdivO_int (st : DSto) {i j : Int} (h : 0 < j) (h1 : j < 1073741824) : fdivO (.int i) (.int j) st = some (.int (i / j), st) := if_pos ⟨h, h1⟩
@[simp] theorem intO_int (st : DSto) (i : Int) : intO [.int i] st = some (.int i, st) := id rfl

theorem szl : sizeLine = 16777216 := rfl
/-! ### subscripts, lengths, in -/
section
variable {st : DSto} {xs ys : List D} {x y : D} {i : Int} {n : Nat} {s : Str}
@[simp] theorem ixO_lst : ixO (.lst xs) (.int i) st = (atI xs i).map fun v => (v, st) := id rfl
@[simp] theorem ixO_tup : ixO (.tup xs) (.int i) st = (atI xs i).map fun v => (v, st) := id rfl
theorem ixO_str : ixO (.str s) y st = ixS (.str s) y st := id rfl
theorem ixO_ref (h : st[n]? = some (.lst xs)) : ixO (.ref n) (.int i) st = (atI xs i).map fun v => (v, st) := by
  simp only [ixO, dctD, h, ixS, itemsD, Option.bind_some]
@[simp] theorem lenO_lst : lenO [.lst xs] st = some (.int xs.length, st) := id rfl
@[simp] theorem lenO_tup : lenO [.tup xs] st = some (.int xs.length, st) := id rfl
theorem lenO_ref (h : st[n]? = some (.lst xs)) : lenO [.ref n] st = some (.int xs.length, st) := by
  simp [lenO, dctD, h, lenS, itemsD]
@[simp] theorem listO_lst : listO [.lst xs] st = some (.lst xs, st) := id rfl
@[simp] theorem listO_tup : listO [.tup xs] st = some (.lst xs, st) := id rfl
theorem listO_ref (h : st[n]? = some (.lst xs)) : listO [.ref n] st = some (.lst xs, st) := by simp [listO, itemsD, h]
@[simp] theorem listR_lst : listR [.lst xs] st = some (.ref st.length, st ++ [.lst xs]) := id rfl
@[simp] theorem listR_tup : listR [.tup xs] st = some (.ref st.length, st ++ [.lst xs]) := id rfl
@[simp] theorem tupleO_lst : tupleO [.lst xs] st = some (.tup xs, st) := id rfl
@[simp] theorem tupleO_tup : tupleO [.tup xs] st = some (.tup xs, st) := id rfl
theorem tupleO_ref (h : st[n]? = some (.lst xs)) : tupleO [.ref n] st = some (.tup xs, st) := by simp [tupleO, itemsD, h]
@[simp] theorem itemsD_lst : itemsD (.lst xs) st = some xs := id rfl
@[simp] theorem itemsD_tup : itemsD (.tup xs) st = some xs := id rfl
theorem itemsD_ref (h : st[n]? = some (.lst xs)) : itemsD (.ref n) st = some xs := by simp [itemsD, h]
@[simp] theorem lstD_lst : lstD (.lst xs) st = some xs := id rfl
theorem lstD_ref (h : st[n]? = some (.lst xs)) : lstD (.ref n) st = some xs := by simp [lstD, h]
theorem addO_lst (h : xs.length + ys.length ≤ sizeLine) : addO (.lst xs) (.lst ys) st = some (.lst (xs ++ ys), st) := by simp [addO, h]
theorem addO_tup (h : xs.length + ys.length ≤ sizeLine) : addO (.tup xs) (.tup ys) st = some (.tup (xs ++ ys), st) := by simp [addO, h]
@[simp] theorem slO_lst {lo hi : Option Int} : slO (.lst xs) lo hi st = some (.lst (cutD xs lo hi), st) := id rfl
@[simp] theorem slO_tup {lo hi : Option Int} : slO (.tup xs) lo hi st = some (.tup (cutD xs lo hi), st) := id rfl
@[simp] theorem slO_scr {lo hi : Option Int} {ns : List Int} : slO (.scr ns) lo hi st = some (.lst (cutD (ns.map D.int) lo hi), st) := id rfl
@[simp] theorem sumO_lst : sumO [.lst xs] st = (intsD xs).map fun ns => (.int ns.sum, st) := id rfl
@[simp] theorem allO_lst : allO [.lst xs] st = (blsD xs).map fun ns => (.bl (ns.all id), st) := id rfl
@[simp] theorem anyO_lst : anyO [.lst xs] st = (blsD xs).map fun ns => (.bl (ns.any id), st) := id rfl
@[simp] theorem insD_ins {c : Nat} {fs : List (Nat × D)} : insD (.ins c fs) st = some (c, fs) := id rfl
theorem insD_ref {c : Nat} {fs : List (Nat × D)} (h : st[n]? = some (.ins c fs)) : insD (.ref n) st = some (c, fs) := by simp [insD, h]
@[simp] theorem isIns_ins {c k : Nat} {fs : List (Nat × D)} : isIns k (.ins c fs) st = decide (c = k) := id rfl
theorem isIns_ref {c k : Nat} {fs : List (Nat × D)} (h : st[n]? = some (.ins c fs)) : isIns k (.ref n) st = decide (c = k) := by simp [isIns, insD, h]
@[simp] theorem fldD_ins {c k : Nat} {fs : List (Nat × D)} : fldD k (.ins c fs) st = match getN k fs with | some y => .ok y st | none => .bad := id rfl
theorem fldD_ref {c k : Nat} {fs : List (Nat × D)} (h : st[n]? = some (.ins c fs)) : fldD k (.ref n) st = match getN k fs with | some y => .ok y st | none => .bad := by
  unfold fldD insD
  dsimp only
  rw [h] <;> rfl
@[simp] theorem getN_cons {k j : Nat} {v : D} {fs : List (Nat × D)} : getN k ((j, v) :: fs) = if j = k then some v else getN k fs := id rfl
@[simp] theorem putN_nil {k : Nat} {v : D} : putN k v [] = [(k, v)] := id rfl
@[simp] theorem putN_cons {k j : Nat} {v x : D} {fs : List (Nat × D)} : putN k v ((j, x) :: fs) = if j = k then (j, v) :: fs else (j, x) :: putN k v fs := id rfl
@[simp] theorem iterL_lst : iterL (.lst xs) st = some (xs, []) := id rfl
theorem mkTup_ok (h : xs.length ≤ sizeLine) : mkTup xs st = .ok (.tup xs) st := if_pos h
theorem mkLstV_ok (h : xs.length ≤ sizeLine) : mkLstV xs st = .ok (.lst xs) st := if_pos h
theorem mkLst_ok (h : xs.length ≤ sizeLine) : mkLst xs st = .ok (.ref st.length) (st ++ [.lst xs]) := if_pos h
theorem s0 : 0 ≤ sizeLine := by decide
theorem s1 : 1 ≤ sizeLine := by decide
theorem s2 : 2 ≤ sizeLine := by decide
theorem s3 : 3 ≤ sizeLine := by decide
theorem s4 : 4 ≤ sizeLine := by decide
theorem s5 : 5 ≤ sizeLine := by decide
@[simp] theorem mkTup_0 : mkTup [] st = .ok (.tup []) st := if_pos s0
@[simp] theorem mkTup_1 {a : D} : mkTup [a] st = .ok (.tup [a]) st := if_pos (show [a].length ≤ sizeLine from s1)
@[simp] theorem mkTup_2 {a b : D} : mkTup [a, b] st = .ok (.tup [a, b]) st := if_pos (show [a, b].length ≤ sizeLine from s2)
@[simp] theorem mkTup_3 {a b c : D} : mkTup [a, b, c] st = .ok (.tup [a, b, c]) st := if_pos (show [a, b, c].length ≤ sizeLine from s3)
@[simp] theorem mkTup_4 {a b c d : D} : mkTup [a, b, c, d] st = .ok (.tup [a, b, c, d]) st := if_pos (show [a, b, c, d].length ≤ sizeLine from s4)
@[simp] theorem mkLstV_0 : mkLstV [] st = .ok (.lst []) st := if_pos s0
@[simp] theorem mkLstV_1 {a : D} : mkLstV [a] st = .ok (.lst [a]) st := if_pos (show [a].length ≤ sizeLine from s1)
@[simp] theorem mkLstV_2 {a b : D} : mkLstV [a, b] st = .ok (.lst [a, b]) st := if_pos (show [a, b].length ≤ sizeLine from s2)
@[simp] theorem mkLstV_3 {a b c : D} : mkLstV [a, b, c] st = .ok (.lst [a, b, c]) st := if_pos (show [a, b, c].length ≤ sizeLine from s3)
@[simp] theorem mkLstV_4 {a b c d : D} : mkLstV [a, b, c, d] st = .ok (.lst [a, b, c, d]) st := if_pos (show [a, b, c, d].length ≤ sizeLine from s4)
@[simp] theorem mkLst_0 : mkLst [] st = .ok (.ref st.length) (st ++ [.lst []]) := if_pos s0
@[simp] theorem mkLst_1 {a : D} : mkLst [a] st = .ok (.ref st.length) (st ++ [.lst [a]]) := if_pos (show [a].length ≤ sizeLine from s1)
@[simp] theorem mkLst_5 {a b c d e : D} : mkLst [a, b, c, d, e] st = .ok (.ref st.length) (st ++ [.lst [a, b, c, d, e]]) := if_pos (show [a, b, c, d, e].length ≤ sizeLine from s5)
end
/-! ### comprehensions, loops -/
section
variable {α β : Type} {c : Chk} {vs : List Nat} {g : DenG} {step : DEnv → List D → DSto → Option (List D × DSto)} {ρ : DEnv} {st : DSto}
theorem compL_nil {acc : List D} : compL c vs g step ρ [] acc st = if chkB c st = true then some (acc, st) else none := by unfold compL; rfl
theorem compL_cons {x : D} {xs acc : List D} : compL c vs g step ρ (x :: xs) acc st = if chkB c st = true then (match g x (wipeE ρ vs) st with
      | none => none
      | some (ρ1, st1) => match step ρ1 acc st1 with
        | none => none
        | some (acc2, st2) => compL c vs g step ρ xs acc2 st2) else none := by rw [compL] <;> rfl
/-- a comprehension over known items that leaves the store as it is; f: what each adds -/
theorem compL_add (f : α → D) (h : α → List D) (hc : chkB c st = true) : ∀ (l : List α) (acc : List D),
    (∀ x ∈ l, ∀ acc, acc.length < sizeLine → ∃ ρ1, g (f x) (wipeE ρ vs) st = some (ρ1, st) ∧ step ρ1 acc st = some (acc ++ h x, st)) → acc.length + (l.flatMap h).length < sizeLine → compL c vs g step ρ (l.map f) acc st = some (acc ++ l.flatMap h, st)
  | [], acc, _, _ => by rw [List.map_nil, compL_nil, if_pos hc]; simp
  | x :: l, acc, hh, hl => by
    simp only [List.flatMap_cons, List.length_append] at hl
    obtain ⟨ρ1, e1, e2⟩ := hh x (List.mem_cons_self ..) acc (by omega)
    rw [List.map_cons, compL_cons, if_pos hc, e1]
    dsimp only
    rw [e2]
    dsimp only
    rw [compL_add f h hc l _ (fun y hy => hh y (List.mem_cons_of_mem _ hy)) (by rw [List.length_append]; omega)]
    simp
theorem flatMap_one (k : α → D) (l : List α) : l.flatMap (fun x => [k x]) = l.map k := by
  induction l with
  | nil => rfl
  | cons a l ih => rw [List.flatMap_cons, ih]; rfl
theorem flatMap_if (p : α → Bool) (k : α → D) (l : List α) : l.flatMap (fun x => if p x then [k x] else []) = (l.filter p).map k := by
  induction l with
  | nil => rfl
  | cons a l ih =>
    rw [List.flatMap_cons, ih, List.filter_cons]
    cases p a <;> rfl
/-- [e(x) for x in l] -/
theorem compL_mapE (f k : α → D) (hc : chkB c st = true) (l : List α) (hl : l.length < sizeLine)
    (h : ∀ x ∈ l, ∀ acc : List D, acc.length < sizeLine → ∃ ρ1, g (f x) (wipeE ρ vs) st = some (ρ1, st) ∧ step ρ1 acc st = some (acc ++ [k x], st)) : compL c vs g step ρ (l.map f) [] st = some (l.map k, st) := by
  rw [compL_add f (fun x => [k x]) hc l [] h (by rw [flatMap_one]; simpa using hl), flatMap_one]
  rfl
/-- [e(x) for x in l if p(x)] -/
theorem compL_filterE (f k : α → D) (p : α → Bool) (hc : chkB c st = true) (l : List α) (hl : l.length < sizeLine)
    (h : ∀ x ∈ l, ∀ acc : List D, acc.length < sizeLine → ∃ ρ1, g (f x) (wipeE ρ vs) st = some (ρ1, st) ∧ step ρ1 acc st = some (acc ++ (if p x then [k x] else []), st)) : compL c vs g step ρ (l.map f) [] st = some ((l.filter p).map k, st) := by
  rw [compL_add f (fun x => if p x then [k x] else []) hc l [] h (by
    rw [flatMap_if, List.length_map]
    have := List.length_filter_le p l
    simp only [List.length_nil]
    omega), flatMap_if]
  rfl
/-- .. with an invariant of what was done -/
theorem compL_inv (f : α → D) (I : List α → List D → DSto → Prop) : ∀ (l pre : List α) (acc : List D) (st : DSto), I pre acc st → (∀ pre acc st, I pre acc st → chkB c st = true) →
    (∀ p x q acc st, pre ++ l = p ++ x :: q → I p acc st → ∃ ρ1 st1 acc' st', g (f x) (wipeE ρ vs) st = some (ρ1, st1) ∧ step ρ1 acc st1 = some (acc', st') ∧ I (p ++ [x]) acc' st') → ∃ acc' st', compL c vs g step ρ (l.map f) acc st = some (acc', st') ∧ I (pre ++ l) acc' st'
  | [], pre, acc, st, i, hc, _ => ⟨acc, st, by rw [List.map_nil, compL_nil, if_pos (hc _ _ _ i)], by simpa using i⟩
  | x :: l, pre, acc, st, i, hc, h => by
    obtain ⟨ρ1, st1, acc', st', e1, e2, i'⟩ := h pre x l acc st rfl i
    obtain ⟨a2, st2, e3, i2⟩ := compL_inv f I l (pre ++ [x]) acc' st' i' hc (fun p y q acc st e => h p y q acc st (by simpa using e))
    refine ⟨a2, st2, ?_, by simpa using i2⟩
    rw [List.map_cons, compL_cons, if_pos (hc _ _ _ i), e1]
    dsimp only
    rw [e2]
    exact e3
variable {pop : Bool} {ws : List Nat} {b : DenS}
theorem forL_nil : forL pop ws c g b [] ρ st = if chkB c st = true then .nx ρ st else .bad := by rw [forL]
theorem forL_cons {x : D} {xs : List D} : forL pop ws c g b (x :: xs) ρ st = if chkB c st = true then (match g x ρ st with
      | none => .bad
      | some (ρ1, st1) => match b ρ1 st1 with
        | .nx ρ2 st2 => match turnE pop ws ρ st ρ2 st2 with
          | some (ρ3, st3) => forL pop ws c g b xs ρ3 st3
          | none => .bad
        | .ct ρ2 st2 => match turnE pop ws ρ st ρ2 st2 with
          | some (ρ3, st3) => forL pop ws c g b xs ρ3 st3
          | none => .bad
        | .bk ρ2 st2 => match turnE pop ws ρ st ρ2 st2 with
          | some (ρ3, st3) => .nx ρ3 st3
          | none => .bad
        | .rt d st2 => .rt d st2
        | .exc c fs ρ2 st2 => .exc c fs ρ2 st2
        | .bad => .bad) else .bad := by rw [forL] <;> rfl
/-- one turn that goes on -/
def Turns (pop : Bool) (ws : List Nat) (g : DenG) (b : DenS) (x : D) (ρ : DEnv) (st : DSto) (ρ' : DEnv) (st' : DSto) : Prop :=
  ∃ ρ1 st1 ρ2 st2, g x ρ st = some (ρ1, st1) ∧ (b ρ1 st1 = .nx ρ2 st2 ∨ b ρ1 st1 = .ct ρ2 st2) ∧ turnE pop ws ρ st ρ2 st2 = some (ρ', st')
/-- one turn that leaves the loop's def -/
def Leaves (g : DenG) (b : DenS) (x : D) (ρ : DEnv) (st : DSto) (r : DStm) : Prop :=
  ∃ ρ1 st1, g x ρ st = some (ρ1, st1) ∧ b ρ1 st1 = r ∧ ((∃ d st', r = .rt d st') ∨ ∃ k fs ρ' st', r = .exc k fs ρ' st')
/-- a loop with an invariant, that may be left -/
theorem forL_run (f : α → D) (I : List α → DEnv → DSto → Prop) (R : DStm → Prop) : ∀ (l pre : List α) (ρ : DEnv) (st : DSto), I pre ρ st → (∀ pre ρ st, I pre ρ st → chkB c st = true) →
    (∀ p x q ρ st, pre ++ l = p ++ x :: q → I p ρ st → (∃ ρ' st', Turns pop ws g b (f x) ρ st ρ' st' ∧ I (p ++ [x]) ρ' st') ∨ ∃ r, Leaves g b (f x) ρ st r ∧ R r) →
    (∃ ρ' st', forL pop ws c g b (l.map f) ρ st = .nx ρ' st' ∧ I (pre ++ l) ρ' st') ∨ R (forL pop ws c g b (l.map f) ρ st)
  | [], pre, ρ, st, i, hc, _ => .inl ⟨ρ, st, by rw [List.map_nil, forL_nil, if_pos (hc _ _ _ i)], by simpa using i⟩
  | x :: l, pre, ρ, st, i, hc, h => by
    rcases h pre x l ρ st rfl i with ⟨ρ', st', ⟨ρ1, st1, ρ2, st2, e1, e2, e3⟩, i'⟩ | ⟨r, ⟨ρ1, st1, e1, e2, e3⟩, hr⟩
    · rcases forL_run f I R l (pre ++ [x]) ρ' st' i' hc (fun p y q ρ st e => h p y q ρ st (by simpa using e)) with ⟨a2, st3, e4, i2⟩ | hr
      · refine .inl ⟨a2, st3, ?_, by simpa using i2⟩
        rw [List.map_cons, forL_cons, if_pos (hc _ _ _ i), e1]
        dsimp only
        rcases e2 with e2 | e2 <;> (rw [e2]; dsimp only; rw [e3]; exact e4)
      · refine .inr ?_
        rw [List.map_cons, forL_cons, if_pos (hc _ _ _ i), e1]
        dsimp only
        rcases e2 with e2 | e2 <;> (rw [e2]; dsimp only; rw [e3]; exact hr)
    · refine .inr ?_
      rw [List.map_cons, forL_cons, if_pos (hc _ _ _ i), e1]
      dsimp only
      rw [e2]
      rcases e3 with ⟨d, st', rfl⟩ | ⟨k, fs, ρ', st', rfl⟩ <;> exact hr
/-- .. that is not left -/
theorem forL_inv (f : α → D) (I : List α → DEnv → DSto → Prop) (l : List α) (ρ : DEnv) (st : DSto) (i : I [] ρ st) (hc : ∀ pre ρ st, I pre ρ st → chkB c st = true)
    (h : ∀ p x q ρ st, l = p ++ x :: q → I p ρ st → ∃ ρ' st', Turns pop ws g b (f x) ρ st ρ' st' ∧ I (p ++ [x]) ρ' st') : ∃ ρ' st', forL pop ws c g b (l.map f) ρ st = .nx ρ' st' ∧ I l ρ' st' := by
  rcases forL_run (c := c) f I (fun _ => False) l [] ρ st i hc (fun p x q ρ st e i => .inl (h p x q ρ st (by simpa using e) i)) with ⟨a, b, e, i⟩ | e
  · exact ⟨a, b, e, by simpa using i⟩
  · exact e.elim
/-- .. whose state is known -/
theorem forL_known (f : α → D) (E : List α → DEnv) (S : List α → DSto) (l : List α) (hc : ∀ p q, l = p ++ q → chkB c (S p) = true)
    (h : ∀ p x q, l = p ++ x :: q → Turns pop ws g b (f x) (E p) (S p) (E (p ++ [x])) (S (p ++ [x]))) : forL pop ws c g b (l.map f) (E []) (S []) = .nx (E l) (S l) := by
  obtain ⟨ρ', st', e, ⟨_, _⟩, rfl, rfl⟩ := forL_inv (c := c) (pop := pop) (ws := ws) (g := g) (b := b) f (fun p ρ st => (∃ q, l = p ++ q) ∧ ρ = E p ∧ st = S p) l (E []) (S []) ⟨⟨l, rfl⟩, rfl, rfl⟩
    (fun p ρ st ⟨⟨q, e⟩, _, e2⟩ => by rw [e2]; exact hc p q e)
    (fun p x q ρ st e ⟨_, e1, e2⟩ => ⟨_, _, by rw [e1, e2]; exact h p x q e, ⟨q, by simpa using e⟩, rfl, rfl⟩)
  exact e
end
/-! ### cut stores -/
section
variable {lo : Nat} {st st' ν r : DSto}
theorem popZ_same : ∀ (a b ν : DSto), popZ lo st' a (a ++ ν) = some a
  | [], _, _ => by simp [popZ]
  | o :: os, b, ν => by
    rw [List.cons_append, popZ, if_pos rfl, popZ_same os b ν]
    rfl
@[simp] theorem popS_self : popS st st = some st := by
  have := popZ_same (lo := st.length) (st' := st) st [] []
  rwa [List.append_nil] at this
@[simp] theorem popS_app : popS st (st ++ ν) = some st := popZ_same _ [] ν
theorem popZ_app : ∀ {a a' c : DSto}, a'.length = a.length → popZ lo st' a a' = some c → popZ lo st' (a ++ r) (a' ++ r ++ ν) = some (c ++ r)
  | [], [], c, _, h => by cases h; exact popZ_same r [] ν
  | o :: os, p :: ps, c, hl, h => by
    unfold popZ at h
    rw [List.cons_append, List.cons_append, List.cons_append, popZ]
    split at h
    · rename_i hp
      obtain ⟨d, h1, rfl⟩ := Option.map_eq_some_iff.mp h
      rw [if_pos hp, popZ_app (by simpa using hl) h1]; rfl
    · rename_i hp
      obtain ⟨q, hq, h⟩ := Option.bind_eq_some_iff.mp h
      obtain ⟨d, h1, rfl⟩ := Option.map_eq_some_iff.mp h
      rw [if_neg hp, hq, Option.bind_some, popZ_app (by simpa using hl) h1]; rfl
theorem popE_same (lo : Nat) (st' : DSto) : ∀ ρ : DEnv, popE lo st' ρ ρ = some ρ
  | [] => rfl
  | o :: os => by
    unfold popE
    rw [if_pos rfl, popE_same lo st' os]
    rfl
/-- d holds no ref -/
def Pure (d : D) : Prop := ∀ lo lk, rs lo lk d = some d
def Pures (l : List D) : Prop := ∀ lo lk, rss lo lk l = some l
theorem pure_non : Pure .non := fun _ _ => rfl
theorem pure_bl (b : Bool) : Pure (.bl b) := fun _ _ => rfl
theorem pure_int (b : Int) : Pure (.int b) := fun _ _ => rfl
theorem pure_str (b : Str) : Pure (.str b) := fun _ _ => rfl
theorem pures_nil : Pures [] := fun _ _ => rfl
theorem pures_cons {x : D} {xs : List D} (h : Pure x) (k : Pures xs) : Pures (x :: xs) := fun lo lk => by simp [rss, h lo lk, k lo lk]
theorem pure_tup {xs : List D} (h : Pures xs) : Pure (.tup xs) := fun lo lk => by simp [rs, h lo lk]
theorem pure_lst {xs : List D} (h : Pures xs) : Pure (.lst xs) := fun lo lk => by simp [rs, h lo lk]
theorem pures_map {α : Type} {f : α → D} (h : ∀ a, Pure (f a)) : ∀ l : List α, Pures (l.map f)
  | [] => pures_nil
  | a :: l => pures_cons (h a) (pures_map h l)
theorem pure_ins {c : Nat} {fs : List (Nat × D)} (h : ∀ p ∈ fs, Pure p.2) : Pure (.ins c fs) := by
  have k : ∀ {fs : List (Nat × D)}, (∀ p ∈ fs, Pure p.2) → ∀ lo lk, rsf lo lk fs = some fs := by
    intro fs
    induction fs with
    | nil => intro _ _ _; rfl
    | cons p fs ih =>
      intro h lo lk
      obtain ⟨k, x⟩ := p
      simp [rsf, h (k, x) List.mem_cons_self lo lk, ih (fun q hq => h q (List.mem_cons_of_mem _ hq)) lo lk]
  exact fun lo lk => by simp [rs, k h lo lk]
theorem fzD_pure {d : D} (h : Pure d) : fzD lo st d = some d := h _ _
theorem fzD_lst {n : Nat} {xs : List D} (hn : ¬ n < lo) (h : st[n]? = some (.lst xs)) (p : Pures xs) : fzD lo st (.ref n) = some (.lst xs) := by
  unfold fzD rs
  rw [if_neg hn]
  simp only [fzK, rlk, h, p lo _, Option.map_some]
theorem fzD_ins {n c : Nat} {fs gs : List (Nat × D)} (hn : ¬ n < lo) (h : st[n]? = some (.ins c fs)) (p : rsf lo (rlk lo st (rlk lo st (rlk lo st fun _ => none))) fs = some gs) : fzD lo st (.ref n) = some (.ins c gs) := by
  unfold fzD rs
  rw [if_neg hn]
  simp only [fzK, rlk, h]
  rw [show rsf lo (rlk lo st (rlk lo st (rlk lo st fun _ => none))) fs = some gs from p]
  rfl
theorem popR_ok {d e : D} {st2 : DSto} (h1 : fzD st.length st' d = some e) (h2 : popS st st' = some st2) : popR st (.ok d st') = .ok e st2 := by
  show (match fzD st.length st' d, popS st st' with | some e, some st2 => DRes.ok e st2 | _, _ => .bad) = _
  rw [h1, h2]
@[simp] theorem popR_bad : popR st .bad = .bad := id rfl
end
theorem bodyP_ap {n N : Nat} {s : DenS} {ds : List D} {st : DSto} : bodyP n N s ds st = popR st (bodyF n N s ds st) := id rfl
theorem starF_ap {n : Nat} {G : FnD} {ds : List D} {st : DSto} (h : n ≤ ds.length) (k : ds.length - n ≤ sizeLine) : starF n G ds st = G (ds.take n ++ [.tup (ds.drop n)]) st := if_pos ⟨h, k⟩
theorem mkObjV_ap {c : Nat} {G : FnD} {ds : List D} {st : DSto} : mkObjV c G ds st = popR st (mkObj c G ds st) := id rfl
/-! ### texts that stand for names -/
structure Name where
  s : Str
  ok : PyData.strOk s = true
  sz : s.length ≤ 16
theorem Name.ext' {a b : Name} (h : a.s = b.s) : a = b := by
  cases a; cases b; cases h; rfl
instance : DecidableEq Name := fun a b => decidable_of_iff (a.s = b.s) ⟨Name.ext', fun h => by rw [h]⟩
abbrev Name.d (a : Name) : D := .str a.s
theorem Name.d_inj {a b : Name} (h : a.d = b.d) : a = b := Name.ext' (D.str.inj h)
/-! ### data that may be compared -/
mutual
def toPy : D → PyData
  | .bl b => .bool b
  | .int i => .int i
  | .str s => .str s
  | .tup xs => .tuple (toPys xs)
  | .lst xs => .list (toPys xs)
  | _ => .none
def toPys : List D → List PyData
  | [] => []
  | x :: xs => toPy x :: toPys xs
end
mutual
def okD : D → Bool
  | .non => true
  | .bl _ => true
  | .int _ => true
  | .str s => PyData.strOk s
  | .tup xs => okDs xs
  | .lst xs => okDs xs
  | _ => false
def okDs : List D → Bool
  | [] => true
  | x :: xs => okD x && okDs xs
end
mutual
def dpD : D → Nat
  | .tup xs => dpDs xs + 1
  | .lst xs => dpDs xs + 1
  | _ => 0
def dpDs : List D → Nat
  | [] => 0
  | x :: xs => max (dpD x) (dpDs xs)
end
mutual
/-- == of data -/
def deqD : D → D → Bool
  | .non, y => match y with | .non => true | _ => false
  | .bl a, y => match y with | .bl b => a == b | .int j => (if a then 1 else 0) == j | _ => false
  | .int i, y => match y with | .int j => i == j | .bl b => i == (if b then 1 else 0) | _ => false
  | .str a, y => match y with | .str b => a == b | _ => false
  | .tup a, y => match y with | .tup b => deqDs a b | _ => false
  | .lst a, y => match y with | .lst b => deqDs a b | _ => false
  | _, _ => false
def deqDs : List D → List D → Bool
  | [], y => match y with | [] => true | _ => false
  | x :: xs, y => match y with | y :: ys => deqD x y && deqDs xs ys | _ => false
end
mutual
theorem pyOf_ok' (lk : Nat → Option PyData) : ∀ d : D, okD d = true → pyOf lk d = some (toPy d)
  | .non, _ => rfl
  | .bl _, _ => rfl
  | .int _, _ => rfl
  | .str _, _ => rfl
  | .tup xs, h => by simp only [pyOf, pyOfs_ok' lk xs h, Option.map_some, toPy]
  | .lst xs, h => by simp only [pyOf, pyOfs_ok' lk xs h, Option.map_some, toPy]
  | .dct _ _, h => by simp [okD] at h
  | .ins _ _, h => by simp [okD] at h
  | .ref _, h => by simp [okD] at h
  | .scr _, h => by simp [okD] at h
  | .exv _ _, h => by simp [okD] at h
theorem pyOfs_ok' (lk : Nat → Option PyData) : ∀ d : List D, okDs d = true → pyOfs lk d = some (toPys d)
  | [], _ => rfl
  | x :: xs, h => by
    simp only [okDs, Bool.and_eq_true] at h
    simp only [pyOfs, pyOf_ok' lk x h.1, pyOfs_ok' lk xs h.2, Option.bind_some, Option.map_some, toPys]
end
mutual
theorem lay_ok : ∀ d : D, okD d = true → (toPy d).canLay0 = true
  | .non, _ => rfl
  | .bl _, _ => rfl
  | .int _, _ => rfl
  | .str _, h => h
  | .tup xs, h => lays_ok xs h
  | .lst xs, h => lays_ok xs h
  | .dct _ _, h => by simp [okD] at h
  | .ins _ _, h => by simp [okD] at h
  | .ref _, h => by simp [okD] at h
  | .scr _, h => by simp [okD] at h
  | .exv _ _, h => by simp [okD] at h
theorem lays_ok : ∀ d : List D, okDs d = true → PyData.canLayAll0 (toPys d) = true
  | [], _ => rfl
  | x :: xs, h => by
    simp only [okDs, Bool.and_eq_true] at h
    show (PyData.canLay0 (toPy x) && PyData.canLayAll0 (toPys xs)) = true
    rw [lay_ok x h.1, lays_ok xs h.2]; rfl
end
mutual
theorem dep_ok : ∀ d : D, (toPy d).depth = dpD d
  | .non => rfl
  | .bl _ => rfl
  | .int _ => rfl
  | .str _ => rfl
  | .tup xs => by show PyData.depthAll (toPys xs) + 1 = _; rw [deps_ok xs]; rfl
  | .lst xs => by show PyData.depthAll (toPys xs) + 1 = _; rw [deps_ok xs]; rfl
  | .dct _ _ => rfl
  | .ins _ _ => rfl
  | .ref _ => rfl
  | .scr _ => rfl
  | .exv _ _ => rfl
theorem deps_ok : ∀ d : List D, PyData.depthAll (toPys d) = dpDs d
  | [] => rfl
  | x :: xs => by
    show max (PyData.depth (toPy x)) (PyData.depthAll (toPys xs)) = _
    rw [dep_ok x, deps_ok xs]; rfl
end
mutual
theorem eqv_ok : ∀ a b : D, okD a = true → okD b = true → PyData.eqv (toPy a) (toPy b) = deqD a b
  | .non, b, _, h => by cases b <;> first | rfl | simp [okD] at h
  | .bl _, b, _, h => by cases b <;> first | rfl | simp [okD] at h
  | .int _, b, _, h => by cases b <;> first | rfl | simp [okD] at h
  | .str _, b, _, h => by cases b <;> first | rfl | simp [okD] at h
  | .tup xs, b, k, h => by
    cases b with
    | tup ys => exact eqvs_ok xs ys k h
    | _ => first | rfl | simp [okD] at h
  | .lst xs, b, k, h => by
    cases b with
    | lst ys => exact eqvs_ok xs ys k h
    | _ => first | rfl | simp [okD] at h
  | .dct _ _, _, h, _ => by simp [okD] at h
  | .ins _ _, _, h, _ => by simp [okD] at h
  | .ref _, _, h, _ => by simp [okD] at h
  | .scr _, _, h, _ => by simp [okD] at h
  | .exv _ _, _, h, _ => by simp [okD] at h
theorem eqvs_ok : ∀ a b : List D, okDs a = true → okDs b = true → PyData.eqvAll (toPys a) (toPys b) = deqDs a b
  | [], b, _, _ => by cases b <;> rfl
  | x :: xs, b, k, h => by
    cases b with
    | nil => rfl
    | cons y ys =>
      simp only [okDs, Bool.and_eq_true] at h k
      show (PyData.eqv (toPy x) (toPy y) && PyData.eqvAll (toPys xs) (toPys ys)) = _
      rw [eqv_ok x y k.1 h.1, eqvs_ok xs ys k.2 h.2]; rfl
end
/-- data of depth n that may be compared -/
def Gd (n : Nat) (d : D) : Prop := okD d = true ∧ dpD d ≤ n
theorem Gd.mono {n m : Nat} {d : D} (h : Gd n d) (k : n ≤ m) : Gd m d := ⟨h.1, Nat.le_trans h.2 k⟩
theorem gd_name (a : Name) (n : Nat := 0) : Gd n a.d := ⟨a.ok, Nat.zero_le _⟩
theorem gd_int (i : Int) (n : Nat := 0) : Gd n (.int i) := ⟨rfl, Nat.zero_le _⟩
theorem gd_bl (i : Bool) (n : Nat := 0) : Gd n (.bl i) := ⟨rfl, Nat.zero_le _⟩
theorem gd_non (n : Nat := 0) : Gd n .non := ⟨rfl, Nat.zero_le _⟩
theorem gds {n : Nat} : ∀ {xs : List D}, (∀ x ∈ xs, Gd n x) → okDs xs = true ∧ dpDs xs ≤ n
  | [], _ => ⟨rfl, Nat.zero_le _⟩
  | x :: xs, h => by
    obtain ⟨h1, h2⟩ := h x List.mem_cons_self
    obtain ⟨h3, h4⟩ := gds fun y hy => h y (List.mem_cons_of_mem _ hy)
    exact ⟨by simp only [okDs, h1, h3, Bool.and_self], by simp only [dpDs]; omega⟩
theorem gd_tup {n : Nat} {xs : List D} (h : ∀ x ∈ xs, Gd n x) : Gd (n + 1) (.tup xs) := by
  obtain ⟨h1, h2⟩ := gds h
  exact ⟨h1, by simp only [dpD]; omega⟩
theorem gd_lst {n : Nat} {xs : List D} (h : ∀ x ∈ xs, Gd n x) : Gd (n + 1) (.lst xs) := by
  obtain ⟨h1, h2⟩ := gds h
  exact ⟨h1, by simp only [dpD]; omega⟩
theorem gd_map {α : Type} {n : Nat} {f : α → D} {l : List α} (h : ∀ a ∈ l, Gd n (f a)) : ∀ x ∈ l.map f, Gd n x := fun x hx => by
  obtain ⟨a, ha, rfl⟩ := List.mem_map.mp hx
  exact h a ha
theorem gd_nil {n : Nat} : ∀ x ∈ ([] : List D), Gd n x := fun x hx => by cases hx
theorem gd_cons {n : Nat} {x : D} {xs : List D} (h : Gd n x) (k : ∀ x ∈ xs, Gd n x) : ∀ y ∈ x :: xs, Gd n y := fun y hy => by
  rcases List.mem_cons.mp hy with rfl | hy
  · exact h
  · exact k y hy
theorem Gd.shaped {n : Nat} {d : D} (h : Gd n d) (hn : n ≤ 64 := by decide) : SeqAt.shaped (toPy d) = true := by
  unfold SeqAt.shaped
  rw [lay_ok d h.1, dep_ok d]
  have := h.2
  simp only [Bool.true_and, decide_eq_true_eq]
  omega
theorem eqO_gd {a b : D} {n m : Nat} {st : DSto} (ha : Gd n a) (hb : Gd m b) (hn : n ≤ 64 := by decide) (hm : m ≤ 64 := by decide) : eqO a b st = some (.bl (deqD a b), st) := by
  unfold eqO reify
  simp only [pyOf_ok' _ a ha.1, pyOf_ok' _ b hb.1, eqv_ok a b ha.1 hb.1]
  rw [if_pos ⟨ha.shaped hn, hb.shaped hm⟩]
theorem neO_gd {a b : D} {n m : Nat} {st : DSto} (ha : Gd n a) (hb : Gd m b) (hn : n ≤ 64 := by decide) (hm : m ≤ 64 := by decide) : neO a b st = some (.bl (!deqD a b), st) := by
  unfold neO reify
  simp only [pyOf_ok' _ a ha.1, pyOf_ok' _ b hb.1, eqv_ok a b ha.1 hb.1]
  rw [if_pos ⟨ha.shaped hn, hb.shaped hm⟩]
theorem toPys_any (x : D) : ∀ l : List D, okD x = true → okDs l = true → (toPys l).any (fun z => PyData.eqv z (toPy x)) = l.any (fun z => deqD z x)
  | [], _, _ => rfl
  | y :: l, hx, h => by
    simp only [okDs, Bool.and_eq_true] at h
    simp only [toPys, List.any_cons, eqv_ok y x h.1 hx, toPys_any x l hx h.2]
theorem inO_lst {x : D} {l : List D} {n m : Nat} {st : DSto} (hx : Gd n x) (hl : Gd m (.lst l)) (hn : n ≤ 64 := by decide) (hm : m ≤ 64 := by decide) : inO x (.lst l) st = some (.bl (l.any fun z => deqD z x), st) := by
  unfold inO memO reify
  simp only [dctD, pyOf_ok' _ x hx.1, pyOf_ok' _ (.lst l) hl.1, toPy]
  rw [if_pos ⟨hx.shaped hn, hl.shaped hm⟩, toPys_any x l hx.1 hl.1]
  rfl
theorem ninO_lst {x : D} {l : List D} {n m : Nat} {st : DSto} (hx : Gd n x) (hl : Gd m (.lst l)) (hn : n ≤ 64 := by decide) (hm : m ≤ 64 := by decide) : ninO x (.lst l) st = some (.bl (!l.any fun z => deqD z x), st) := by
  unfold ninO memO reify
  simp only [dctD, pyOf_ok' _ x hx.1, pyOf_ok' _ (.lst l) hl.1, toPy]
  rw [if_pos ⟨hx.shaped hn, hl.shaped hm⟩, toPys_any x l hx.1 hl.1]
  rfl
mutual
/-- no truth values within -/
def nbD : D → Bool
  | .bl _ => false
  | .tup xs => nbDs xs
  | .lst xs => nbDs xs
  | _ => true
def nbDs : List D → Bool
  | [] => true
  | x :: xs => nbD x && nbDs xs
end
mutual
theorem deqD_iff : ∀ a b : D, okD a = true → nbD a = true → nbD b = true → (deqD a b = true ↔ a = b)
  | .non, b, _, _, h => by cases b <;> simp [deqD, nbD] at h ⊢
  | .int _, b, _, _, h => by cases b <;> simp [deqD, nbD] at h ⊢
  | .str _, b, _, _, h => by cases b <;> simp [deqD, nbD] at h ⊢
  | .tup xs, b, o, k, h => by
    cases b with
    | tup ys => simpa [deqD] using deqDs_iff xs ys o k h
    | _ => simp [deqD, nbD] at h ⊢
  | .lst xs, b, o, k, h => by
    cases b with
    | lst ys => simpa [deqD] using deqDs_iff xs ys o k h
    | _ => simp [deqD, nbD] at h ⊢
  | .bl _, _, _, h, _ => by simp [nbD] at h
  | .dct _ _, _, h, _, _ => by simp [okD] at h
  | .ins _ _, _, h, _, _ => by simp [okD] at h
  | .ref _, _, h, _, _ => by simp [okD] at h
  | .scr _, _, h, _, _ => by simp [okD] at h
  | .exv _ _, _, h, _, _ => by simp [okD] at h
theorem deqDs_iff : ∀ a b : List D, okDs a = true → nbDs a = true → nbDs b = true → (deqDs a b = true ↔ a = b)
  | [], b, _, _, _ => by cases b <;> simp [deqDs]
  | x :: xs, b, o, k, h => by
    cases b with
    | nil => simp [deqDs]
    | cons y ys =>
      simp only [okDs, nbDs, Bool.and_eq_true] at o h k
      simp [deqDs, deqD_iff x y o.1 k.1 h.1, deqDs_iff xs ys o.2 k.2 h.2]
end
/-- data whose == is equality -/
def Eqd (n : Nat) (d : D) : Prop := Gd n d ∧ nbD d = true
theorem Eqd.mono {n m : Nat} {d : D} (h : Eqd n d) (k : n ≤ m) : Eqd m d := ⟨h.1.mono k, h.2⟩
theorem eqd_name (a : Name) (n : Nat := 0) : Eqd n a.d := ⟨gd_name a n, rfl⟩
theorem eqd_int (i : Int) (n : Nat := 0) : Eqd n (.int i) := ⟨gd_int i n, rfl⟩
theorem eqd_non (n : Nat := 0) : Eqd n .non := ⟨gd_non n, rfl⟩
theorem nbDs_of {n : Nat} : ∀ {xs : List D}, (∀ x ∈ xs, Eqd n x) → nbDs xs = true
  | [], _ => rfl
  | x :: xs, h => by simp only [nbDs, (h x List.mem_cons_self).2, nbDs_of fun y hy => h y (List.mem_cons_of_mem _ hy), Bool.and_self]
theorem eqd_tup {n : Nat} {xs : List D} (h : ∀ x ∈ xs, Eqd n x) : Eqd (n + 1) (.tup xs) := ⟨gd_tup fun x hx => (h x hx).1, nbDs_of h⟩
theorem eqd_lst {n : Nat} {xs : List D} (h : ∀ x ∈ xs, Eqd n x) : Eqd (n + 1) (.lst xs) := ⟨gd_lst fun x hx => (h x hx).1, nbDs_of h⟩
theorem eqd_map {α : Type} {n : Nat} {f : α → D} {l : List α} (h : ∀ a ∈ l, Eqd n (f a)) : ∀ x ∈ l.map f, Eqd n x := fun x hx => by
  obtain ⟨a, ha, rfl⟩ := List.mem_map.mp hx
  exact h a ha
theorem eqd_nil {n : Nat} : ∀ x ∈ ([] : List D), Eqd n x := fun x hx => by cases hx
theorem eqd_cons {n : Nat} {x : D} {xs : List D} (h : Eqd n x) (k : ∀ x ∈ xs, Eqd n x) : ∀ y ∈ x :: xs, Eqd n y := fun y hy => by
  rcases List.mem_cons.mp hy with rfl | hy
  · exact h
  · exact k y hy
theorem deqD_eqd {n m : Nat} {a b : D} (ha : Eqd n a) (hb : Eqd m b) : deqD a b = decide (a = b) := by
  have := deqD_iff a b ha.1.1 ha.2 hb.2
  rw [Bool.eq_iff_iff, this, decide_eq_true_iff]
theorem eqO_eqd {a b : D} {n m : Nat} {st : DSto} (ha : Eqd n a) (hb : Eqd m b) (hn : n ≤ 64 := by decide) (hm : m ≤ 64 := by decide) : eqO a b st = some (.bl (decide (a = b)), st) := by
  rw [eqO_gd ha.1 hb.1 hn hm, deqD_eqd ha hb]
theorem neO_eqd {a b : D} {n m : Nat} {st : DSto} (ha : Eqd n a) (hb : Eqd m b) (hn : n ≤ 64 := by decide) (hm : m ≤ 64 := by decide) : neO a b st = some (.bl (!decide (a = b)), st) := by
  rw [neO_gd ha.1 hb.1 hn hm, deqD_eqd ha hb]
theorem any_deqD {n m : Nat} {x : D} (hx : Eqd n x) : ∀ {l : List D}, (∀ y ∈ l, Eqd m y) → l.any (fun z => deqD z x) = decide (x ∈ l)
  | [], _ => by simp
  | y :: l, h => by
    rw [List.any_cons, any_deqD hx fun z hz => h z (List.mem_cons_of_mem _ hz), deqD_eqd (h y List.mem_cons_self) hx]
    rw [Bool.eq_iff_iff]
    simp only [Bool.or_eq_true, decide_eq_true_eq, List.mem_cons]
    exact ⟨fun h => h.imp Eq.symm id, fun h => h.imp Eq.symm id⟩
theorem inO_eqd {x : D} {l : List D} {n m : Nat} {st : DSto} (hx : Eqd n x) (hl : ∀ y ∈ l, Eqd m y) (hn : n ≤ 64 := by decide) (hm : m ≤ 63 := by decide) : inO x (.lst l) st = some (.bl (decide (x ∈ l)), st) := by
  rw [inO_lst hx.1 (eqd_lst hl).1 hn (by omega), any_deqD hx hl]
theorem ninO_eqd {x : D} {l : List D} {n m : Nat} {st : DSto} (hx : Eqd n x) (hl : ∀ y ∈ l, Eqd m y) (hn : n ≤ 64 := by decide) (hm : m ≤ 63 := by decide) : ninO x (.lst l) st = some (.bl (!decide (x ∈ l)), st) := by
  rw [ninO_lst hx.1 (eqd_lst hl).1 hn (by omega), any_deqD hx hl]
theorem mem_map_inj {α : Type} {f : α → D} (hf : ∀ a b, f a = f b → a = b) {a : α} {l : List α} : f a ∈ l.map f ↔ a ∈ l := by
  rw [List.mem_map]
  exact ⟨fun ⟨b, hb, e⟩ => hf _ _ e ▸ hb, fun h => ⟨a, h, rfl⟩⟩
theorem map_inj' {α : Type} {f : α → D} (hf : ∀ a b, f a = f b → a = b) : ∀ {l m : List α}, l.map f = m.map f ↔ l = m
  | [], [] => by simp
  | [], _ :: _ => by simp
  | _ :: _, [] => by simp
  | a :: l, b :: m => by
    rw [List.map_cons, List.map_cons, List.cons.injEq, List.cons.injEq, map_inj' hf]
    exact ⟨fun h => ⟨hf _ _ h.1, h.2⟩, fun h => ⟨by rw [h.1], h.2⟩⟩
theorem strs_inj {l m : List Name} : l.map Name.d = m.map Name.d ↔ l = m := map_inj' (fun _ _ => Name.d_inj)
theorem strs_eqd (l : List Name) : ∀ x ∈ l.map Name.d, Eqd 0 x := eqd_map fun a _ => eqd_name a
theorem inV_names (a : Name) : ∀ l : List Name, inV (vOf a.d) ((l.map Name.d).map vOf) = decide (a ∈ l)
  | [] => by simp [inV]
  | b :: l => by
    have ih := inV_names a l
    unfold inV at ih ⊢
    rw [List.map_cons, List.map_cons, List.any_cons, ih]
    have e : eqV (vOf b.d) (vOf a.d) = decide (a = b) := by
      show decide (b.s = a.s) = _
      rw [decide_eq_decide]
      exact ⟨fun h => Name.ext' h.symm, fun h => by rw [h]⟩
    rw [e, Bool.eq_iff_iff]
    simp [List.mem_cons]
theorem flat_names (l : List Name) : (l.map Name.d).all flatD = true := by
  rw [List.all_map]
  exact List.all_eq_true.mpr fun _ _ => rfl
/-- a name in a tuple of names -/
theorem inO_names {a : Name} {l : List Name} {st : DSto} : inO a.d (.tup (l.map Name.d)) st = some (.bl (decide (a ∈ l)), st) := by
  show (if flatD a.d = true ∧ (l.map Name.d).all flatD = true then some (D.bl (inV (vOf a.d) ((l.map Name.d).map vOf)), st) else none) = _
  rw [if_pos ⟨rfl, flat_names l⟩, inV_names]
theorem ninO_names {a : Name} {l : List Name} {st : DSto} : ninO a.d (.tup (l.map Name.d)) st = some (.bl (!decide (a ∈ l)), st) := by
  show (if flatD a.d = true ∧ (l.map Name.d).all flatD = true then some (D.bl (!inV (vOf a.d) ((l.map Name.d).map vOf)), st) else none) = _
  rw [if_pos ⟨rfl, flat_names l⟩, inV_names]
end FV

set_option Elab.async false
set_option linter.all false
set_option maxRecDepth 100000
set_option maxHeartbeats 4000000
namespace FV
open PySem PySem.Spec PyProof.Rows L2

/-! ### the law's own words that all laws share -/
def den_law_source : DenS :=
  (dSeq (dAsg 1 (dLcB false (dISeq (dSl (dVar 0) none (some (dC (.int 63))))) [2] (gdName 2) (stepE dYes (dB' intO (dCons (dVar 2) dNil)))))
    (dRet (dLst (dCons (dVar 1) (dCons (dLcB true (dISeq (dVar 1)) [2] (gdName 2) (stepE dYes (dOp geO (dVar 2) (dOp powO (dC (.int 10)) (dC (.int 18)))))) (dCons (dC (.int 0)) (dCons (dC (.int 0)) (dCons (dOp modO (dB' intO (dCons (dB' sumO (dCons (dVar 1) dNil)) dNil)) (dC (.int 1000003))) dNil))))))))
def G_law_source : FnD := bodyF 1 3 den_law_source

def den_law_draw : DenS :=
  (dSeq (dAsg 2 (dOp ixO (dVar 0) (dC (.int 0))))
    (dSeq (dAsg 3 (dOp ixO (dVar 0) (dC (.int 2))))
    (dSeq (dIfS (dB (dOp ltO (dVar 3) (dB' lenO (dCons (dVar 2) dNil)))) (dSeq (dAsg 5 (dOp ixO (dVar 2) (dVar 3)))
    (dSeq (dAsgG (dOp fdivO (dVar 5) (dVar 1)) (gdSub (dVar 2) (dVar 3) setO))
    (dSeq (dIfS (dOr (dNot (dB (dOp ixO (dOp ixO (dVar 0) (dC (.int 1))) (dVar 3)))) (dB (dOp eqO (dOp ixO (dVar 2) (dVar 3)) (dC (.int 0))))) (dAsgG (dOp addO (dVar 3) (dC (.int 1))) (gdSub (dVar 0) (dC (.int 2)) setO)) dSkip)
    (dRet (dOp modO (dB' intO (dCons (dVar 5) dNil)) (dVar 1)))))) dSkip)
    (dSeq (dIfS (dB (dOp eqO (dOp ixO (dVar 0) (dC (.int 4))) (dC (.int 0)))) (dRet (dC (.int 0))) dSkip)
    (dSeq (dAsgG (dOp addO (dOp ixO (dVar 0) (dC (.int 3))) (dC (.int 1))) (gdSub (dVar 0) (dC (.int 3)) setO))
    (dSeq (dAsg 4 (dOp modO (dB' intO (dCons (dOp mulO (dOp addO (dOp ixO (dVar 0) (dC (.int 4))) (dOp mulO (dOp ixO (dVar 0) (dC (.int 3))) (dC (.int 7919)))) (dC (.int 48271))) dNil)) (dC (.int 2147483647))))
    (dRet (dOp modO (dOp fdivO (dOp modO (dB' intO (dCons (dOp mulO (dVar 4) (dVar 4)) dNil)) (dC (.int 998244353))) (dC (.int 7))) (dVar 1)))))))))
def G_law_draw : FnD := bodyF 2 6 den_law_draw

def den_law_names : DenS :=
  (dSeq (dAsg 2 (dC (.str (PySem.Str.ofString "abcdefghijklmnopqrstuvwxyz"))))
    (dSeq (dAsg 3 (dCall G_law_draw (dCons (dVar 0) (dCons (dC (.int 4)) dNil))))
    (dSeq (dAsg 4 (dCall G_law_draw (dCons (dVar 0) (dCons (dC (.int 4)) dNil))))
    (dSeq (dAsg 5 (dCall G_law_draw (dCons (dVar 0) (dCons (dC (.int 2)) dNil))))
    (dSeq (dAsg 6 (dCall G_law_draw (dCons (dVar 0) (dCons (dC (.int 26)) dNil))))
    (dSeq (dAsg 7 (dOp ixO (dVar 2) (dCall G_law_draw (dCons (dVar 0) (dCons (dC (.int 26)) dNil)))))
    (dRet (dLcB true (dIRng1 (dVar 1)) [8] (gdName 8) (stepE dYes (dOp addO (dOp addO (dOp mulO (dVar 7) (dVar 3)) (dOp ixO (dVar 2) (dOp modO (dB' intO (dCons (dOp addO (dVar 6) (dVar 8)) dNil)) (dC (.int 26))))) (dOp mulO (dVar 7) (dOp addO (dVar 4) (dOp mulO (dVar 5) (dOp modO (dB' intO (dCons (dVar 8) dNil)) (dC (.int 3))))))))))))))))
def G_law_names : FnD := bodyF 2 9 den_law_names


/-- the source: its cells with their marks, where it stands, its count, its seed -/
structure Src where
  cells : List (Int × Bool)
  at_ : Nat
  n : Int
  seed : Int
/-- a store with the source ahead -/
def SS (s : Src) (r : DSto) : DSto := .lst (s.cells.map fun p => .int p.1) :: .lst [.ref 0, .lst (s.cells.map fun p => .bl p.2), .int s.at_, .int s.n, .int s.seed] :: r
section
variable {s s' : Src} {r ν : DSto} {k : Nat} {o : DObj}
@[simp] theorem SS_len : (SS s r).length = r.length + 2 := id rfl
@[simp] theorem SS_app : SS s r ++ ν = SS s (r ++ ν) := id rfl
@[simp] theorem SS_get : (SS s r)[k + 2]? = r[k]? := by simp [SS]
@[simp] theorem SS_set : (SS s r).set (k + 2) o = SS s (r.set k o) := by simp [SS]
theorem SS_pop : popS (SS s r) (SS s' (r ++ ν)) = some (SS s' r) := by
  have pi : ∀ (l : List (Int × Bool)) lo lk, rss lo lk (l.map fun p => D.int p.1) = some (l.map fun p => D.int p.1) := fun l => pures_map (fun _ => pure_int _) l
  have pb : ∀ (l : List (Int × Bool)) lo lk, rss lo lk (l.map fun p => D.bl p.2) = some (l.map fun p => D.bl p.2) := fun l => pures_map (fun _ => pure_bl _) l
  have h : popZ (SS s r).length (SS s' (r ++ ν)) [.lst (s.cells.map fun p => .int p.1), .lst [.ref 0, .lst (s.cells.map fun p => .bl p.2), .int s.at_, .int s.n, .int s.seed]] [.lst (s'.cells.map fun p => .int p.1), .lst [.ref 0, .lst (s'.cells.map fun p => .bl p.2), .int s'.at_, .int s'.n, .int s'.seed]] = some [.lst (s'.cells.map fun p => .int p.1), .lst [.ref 0, .lst (s'.cells.map fun p => .bl p.2), .int s'.at_, .int s'.n, .int s'.seed]] := by
    have f1 : fzO (SS s r).length (SS s' (r ++ ν)) (.lst (s'.cells.map fun p => .int p.1)) = some (.lst (s'.cells.map fun p => .int p.1)) := by simp only [fzO, pi, Option.map_some]
    have f2 : fzO (SS s r).length (SS s' (r ++ ν)) (.lst [.ref 0, .lst (s'.cells.map fun p => .bl p.2), .int s'.at_, .int s'.n, .int s'.seed]) = some (.lst [.ref 0, .lst (s'.cells.map fun p => .bl p.2), .int s'.at_, .int s'.n, .int s'.seed]) := by
      simp [fzO, rss, rs, pb]
    have g : ∀ o p : DObj, fzO (SS s r).length (SS s' (r ++ ν)) p = some p → ∀ os ps qs, popZ (SS s r).length (SS s' (r ++ ν)) os ps = some qs → popZ (SS s r).length (SS s' (r ++ ν)) (o :: os) (p :: ps) = some (p :: qs) := fun o p hp os ps qs hq => by
      unfold popZ
      by_cases e : p = o
      · rw [if_pos e, hq]; subst e; rfl
      · rw [if_neg e, hp, hq]; rfl
    exact g _ _ f1 _ _ _ (g _ _ f2 _ _ _ rfl)
  have := popZ_app (r := r) (ν := ν) (by rfl) h
  exact this
theorem SS_pop' : popS (SS s r) (SS s' r) = some (SS s' r) := by
  have := SS_pop (s := s) (s' := s') (r := r) (ν := [])
  rwa [List.append_nil] at this
end
theorem draw_ok (s : Src) (r : DSto) {m : Int} (h0 : 0 < m) (h1 : m < 1073741824) : ∃ (v : Nat) (s' : Src), G_law_draw [.ref 1, .int m] (SS s r) = .ok (.int v) (SS s' r) ∧ (v : Int) < m := by
  have fin : ∀ (v : Int) (s' : Src), 0 ≤ v → v < m → G_law_draw [.ref 1, .int m] (SS s r) = .ok (.int v) (SS s' r) → ∃ (v : Nat) (s' : Src), G_law_draw [.ref 1, .int m] (SS s r) = .ok (.int v) (SS s' r) ∧ (v : Int) < m := fun v s' a b e => by
    obtain ⟨n, rfl⟩ := Int.eq_ofNat_of_zero_le a
    exact ⟨n, s', e, b⟩
  obtain ⟨c, k, n, s⟩ := s
  unfold G_law_draw at fin ⊢
  rw [bodyF_ap (n := 2) rfl] at fin ⊢
  by_cases hk : k < c.length
  · have e1 : (c.map fun p => D.int p.1)[k]? = some (.int c[k].1) := by rw [List.getElem?_map, List.getElem?_eq_getElem hk]; rfl
    have e2 : (c.map fun p => D.bl p.2)[k]? = some (.bl c[k].2) := by rw [List.getElem?_map, List.getElem?_eq_getElem hk]; rfl
    have n0 : 0 ≤ c[k].1 % m := Int.emod_nonneg _ (by omega)
    have n1 : c[k].1 % m < m := Int.emod_lt_of_pos _ h0
    have e4 : ((k : Int) + 1) = ((k + 1 : Nat) : Int) := by omega
    have m1 : (c.set k (c[k].1 / m, c[k].2)).map (fun p => D.int p.1) = (c.map fun p => D.int p.1).set k (.int (c[k].1 / m)) := by rw [List.map_set]
    have m2 : (c.set k (c[k].1 / m, c[k].2)).map (fun p => D.bl p.2) = c.map fun p => D.bl p.2 := by
      apply List.ext_getElem?
      intro j
      rw [List.getElem?_map, List.getElem?_map]
      by_cases hj : k = j
      · subst hj; rw [List.getElem?_set_self hk, List.getElem?_eq_getElem hk]; rfl
      · rw [List.getElem?_set_ne hj]
    have hS : ∀ k2 : Nat, SS ⟨c.set k (c[k].1 / m, c[k].2), k2, n, s⟩ r = .lst ((c.map fun p => D.int p.1).set k (.int (c[k].1 / m))) :: .lst [.ref 0, .lst (c.map fun p => .bl p.2), .int k2, .int n, .int s] :: r := fun k2 => by
      unfold SS; simp only [m1, m2]
    by_cases q : c[k].2 = true ∧ ¬ (c[k].1 / m = 0)
    · refine fin (c[k].1 % m) ⟨c.set k (c[k].1 / m, c[k].2), k, n, s⟩ n0 n1 ?_
      rw [hS]
      simp [den_law_draw, SS, ixO, dctD, ixS, itemsD, lenO, lenS, hk, atI_nat, e1, e2, fdivO_int, modO_int, h0, h1, setO, setLO, ixN, q.1, q.2]
    · refine fin (c[k].1 % m) ⟨c.set k (c[k].1 / m, c[k].2), k + 1, n, s⟩ n0 n1 ?_
      have q' : c[k].2 = false ∨ (c[k].2 = true ∧ c[k].1 / m = 0) := by
        cases hb' : c[k].2 with
        | false => exact .inl rfl
        | true => exact .inr ⟨rfl, Classical.byContradiction fun w => q ⟨hb', w⟩⟩
      rw [hS]
      rcases q' with q | q
      · simp [den_law_draw, SS, ixO, dctD, ixS, itemsD, lenO, lenS, hk, atI_nat, e1, e2, fdivO_int, modO_int, h0, h1, setO, setLO, ixN, q]
      · simp [den_law_draw, SS, ixO, dctD, ixS, itemsD, lenO, lenS, hk, atI_nat, e1, e2, fdivO_int, modO_int, h0, h1, setO, setLO, ixN, q.1, q.2]
  · by_cases hs : s = 0
    · refine fin 0 ⟨c, k, n, s⟩ (Int.le_refl _) h0 ?_
      simp [den_law_draw, SS, ixO, dctD, ixS, itemsD, lenO, lenS, hk, hs]
    · have hsq : ∀ (st : DSto) (e : Int), mulO (.int (e % 2147483647)) (.int (e % 2147483647)) st = some (.int (e % 2147483647 * (e % 2147483647)), st) := fun st e => by
        have a0 : 0 ≤ e % 2147483647 := Int.emod_nonneg _ (by decide)
        have a1 : e % 2147483647 < 2147483647 := Int.emod_lt_of_pos _ (by decide)
        rw [mulO_int, if_pos (.inl ⟨by omega, by omega⟩)]
      refine fin ((s + (n + 1) * 7919) * 48271 % 2147483647 * ((s + (n + 1) * 7919) * 48271 % 2147483647) % 998244353 / 7 % m) ⟨c, k, n + 1, s⟩ (Int.emod_nonneg _ (by omega)) (Int.emod_lt_of_pos _ h0) ?_
      simp [den_law_draw, SS, ixO, dctD, ixS, itemsD, lenO, lenS, hk, hs, setO, setLO, ixN, hsq, mulO_int, modO_int, fdivO_int, h0]
theorem cut_all {xs : List D} {k : Nat} (h : xs.length ≤ k) : cutD xs none (some (k : Int)) = xs := by
  unfold cutD
  rw [HT.sIx_none, HT.sIx_nat, Nat.min_eq_right h]
  simp
theorem intsD_map {α : Type} (f : α → Int) : ∀ l : List α, intsD (l.map fun a => D.int (f a)) = some (l.map f)
  | [] => rfl
  | a :: l => by simp [intsD, intsD_map f l]
theorem blsD_map {α : Type} (f : α → Bool) : ∀ l : List α, blsD (l.map fun a => D.bl (f a)) = some (l.map f)
  | [] => rfl
  | a :: l => by simp [blsD, blsD_map f l]
/-- the source is made -/
theorem source_ok (ns : List Int) (hl : ns.length ≤ 63) : ∃ s, G_law_source [.scr ns] [] = .ok (.ref 1) (SS s []) := by
  have sz := szl
  have e0 : cutD (ns.map D.int) none (some 63) = ns.map D.int := cut_all (k := 63) (by simpa using hl)
  refine ⟨⟨ns.map fun n => (n, decide (10 ^ 18 ≤ n)), 0, 0, ns.sum % 1000003⟩, ?_⟩
  unfold G_law_source
  rw [bodyF_ap (n := 1) rfl]
  have c1 : ∀ (c : Chk) (ρ : DEnv) (st : DSto), chkB c st = true → ρ.length = 3 → compL c [2] (gdName 2) (stepE dYes (dB' intO (dCons (dVar 2) dNil))) ρ (ns.map D.int) [] st = some (ns.map D.int, st) := fun c ρ st hc hr => by
    refine compL_mapE D.int D.int hc ns (by omega) fun x hx acc ha => ⟨_, rfl, ?_⟩
    simp [hr, ha]
  have c2 : ∀ (c : Chk) (ρ : DEnv) (st : DSto), chkB c st = true → ρ.length = 3 → compL c [2] (gdName 2) (stepE dYes (dOp geO (dVar 2) (dOp powO (dC (.int 10)) (dC (.int 18))))) ρ (ns.map D.int) [] st = some (ns.map (fun n => .bl (decide (10 ^ 18 ≤ n))), st) := fun c ρ st hc hr => by
    refine compL_mapE D.int _ hc ns (by omega) fun x hx acc ha => ⟨_, rfl, ?_⟩
    simp [hr, ha, powO]
  have e3 := intsD_map id ns
  simp only [id_eq, List.map_id'] at e3
  have e4 : intsD (ns.map D.int) = some ns := by simpa using intsD_map id ns
  simp [den_law_source, e0, c1, c2, sumO, lstD, e4, modO_int, SS, Function.comp_def]
/-! ### names -/
theorem mul_one (c : Nat) (n : Nat) : Txt.mul ⟨#[c]⟩ (n : Int) = ⟨Array.replicate n c⟩ := by
  rw [← List.toArray_replicate]
  have hf : ∀ (m : Nat) (a : Array Nat), (List.replicate m #[c]).foldl (· ++ ·) a = a ++ (List.replicate m c).toArray := by
    intro m
    induction m with
    | zero => intro a; simp
    | succ m ih =>
      intro a
      rw [List.replicate_succ, List.foldl_cons, ih, List.replicate_succ]
      apply Array.ext'
      simp
  unfold Txt.mul
  by_cases h : (n : Int) < 1
  · rw [if_pos h]
    obtain rfl : n = 0 := by omega
    rfl
  · rw [if_neg h]
    by_cases h1 : ((n : Int) == 1 || (Str.length ⟨#[c]⟩) == 0) = true
    · rw [if_pos h1]
      have : n = 1 := by
        simp [Str.length] at h1
        omega
      subst this
      rfl
    · rw [if_neg h1]
      simp [hf]
theorem letters : (PySem.Str.ofString "abcdefghijklmnopqrstuvwxyz").cps.toList = (List.range 26).map (· + 97) := by decide +kernel
theorem letters_len : (PySem.Str.ofString "abcdefghijklmnopqrstuvwxyz").length = 26 := by decide +kernel
theorem letter_at (st : DSto) {i : Nat} (h1 : i < 26) : ixO (.str (PySem.Str.ofString "abcdefghijklmnopqrstuvwxyz")) (.int i) st = some (.str ⟨#[i + 97]⟩, st) := by
  rw [ixO_str]
  unfold ixS
  simp only [letters_len, letters]
  rw [if_pos (by decide), atI_nat]
  simp [h1]
def nameOf (f a l b : Nat) : Str := ⟨(List.replicate a f ++ l :: List.replicate b f).toArray⟩
theorem nameOf_eq (f a l b : Nat) : (⟨Array.replicate a f⟩ : Str) ++ ⟨#[l]⟩ ++ ⟨Array.replicate b f⟩ = nameOf f a l b := by
  rw [← List.toArray_replicate, ← List.toArray_replicate]
  unfold nameOf
  show (⟨((List.replicate a f).toArray ++ #[l]) ++ (List.replicate b f).toArray⟩ : Str) = ⟨_⟩
  congr 1
  apply Array.ext'
  simp
theorem nameOf_len (f a l b : Nat) : (nameOf f a l b).length = a + 1 + b := by
  simp [nameOf, Str.length]; omega
theorem nameOf_ok {f a l b : Nat} (hf : f < 200) (hl : l < 200) : PyData.strOk (nameOf f a l b) = true := by
  unfold PyData.strOk nameOf
  simp
  omega
theorem nameOf_ne {f a l b l' b' : Nat} (h : l ≠ l') : nameOf f a l b ≠ nameOf f a l' b' := by
  intro e
  unfold nameOf at e
  have e1 := congrArg (fun s : Str => s.cps.toList[a]?) e
  simp at e1
  exact h e1
theorem names_ok (s : Src) (r : DSto) {count : Nat} (hc : count ≤ 26) : ∃ (names : List Name) (s' : Src), G_law_names [.ref 1, .int count] (SS s r) = .ok (.lst (names.map Name.d)) (SS s' r) ∧ names.length = count ∧ names.Nodup ∧ ∀ x ∈ names, 1 ≤ x.s.length ∧ x.s.length ≤ 9 := by
  obtain ⟨ah, s1, e1, a1⟩ := draw_ok s r (m := 4) (by decide) (by decide)
  obtain ⟨be, s2, e2, b1⟩ := draw_ok s1 r (m := 4) (by decide) (by decide)
  obtain ⟨un, s3, e3, u1⟩ := draw_ok s2 r (m := 2) (by decide) (by decide)
  obtain ⟨fi, s4, e4, f1⟩ := draw_ok s3 r (m := 26) (by decide) (by decide)
  obtain ⟨fl, s5, e5, g1⟩ := draw_ok s4 r (m := 26) (by decide) (by decide)
  have sz := szl
  have lim : ∀ k, un * (k % 3) ≤ 1 * 2 := fun k => Nat.mul_le_mul (by omega) (by omega)
  let nm : Nat → Name := fun k => ⟨nameOf (fl + 97) ah ((fi + k) % 26 + 97) (be + un * (k % 3)), nameOf_ok (by omega) (by omega), by rw [nameOf_len]; have := lim k; omega⟩
  refine ⟨(List.range count).map nm, s5, ?_, by simp, ?_, ?_⟩
  · unfold G_law_names
    rw [bodyF_ap (n := 2) rfl]
    unfold den_law_names
    have la := fun st => letter_at st (i := fl)
    have la' := fun (st : DSto) (i : Nat) (h : i < 26) => letter_at st (i := i) h
    generalize PySem.Str.ofString "abcdefghijklmnopqrstuvwxyz" = L at la la' ⊢
    have hcomp : ∀ ρ : DEnv, ρ = [some (.ref 1), some (.int count), some (.str L), some (.int ah), some (.int be), some (.int un), some (.int fi), some (.str ⟨#[fl + 97]⟩), none] →
        compL [] [8] (gdName 8) (stepE dYes (dOp addO (dOp addO (dOp mulO (dVar 7) (dVar 3)) (dOp ixO (dVar 2) (dOp modO (dB' intO (dCons (dOp addO (dVar 6) (dVar 8)) dNil)) (dC (D.int 26)))))
          (dOp mulO (dVar 7) (dOp addO (dVar 4) (dOp mulO (dVar 5) (dOp modO (dB' intO (dCons (dVar 8) dNil)) (dC (D.int 3)))))))) ρ ((List.range count).map fun k : Nat => D.int (k : Int)) [] (SS s5 r) =
        some ((List.range count).map (fun k => (nm k).d), SS s5 r) := by
      rintro ρ rfl
      refine compL_mapE (fun k : Nat => D.int (k : Int)) _ rfl _ (by simp; omega) fun k hk acc ha => ⟨_, rfl, ?_⟩
      have l1 := lim k
      obtain ⟨P, hP⟩ : ∃ P, P = be + un * (k % 3) := ⟨_, rfl⟩
      obtain ⟨Q, hQ⟩ : ∃ Q, Q = (fi + k) % 26 := ⟨_, rfl⟩
      have hnm : (nm k).d = .str (nameOf (fl + 97) ah (Q + 97) P) := by show D.str (nameOf _ _ _ _) = _; rw [← hP, ← hQ]
      have q1 : ((fi : Int) + (k : Int)) % 26 = (Q : Int) := by omega
      have q2 : (be : Int) + (un : Int) * ((k : Int) % 3) = (P : Int) := by subst hP; simp
      have m1 : ∀ n : Nat, n ≤ 1000 → mulO (.str ⟨#[fl + 97]⟩) (.int (n : Int)) (SS s5 r) = some (.str ⟨Array.replicate n (fl + 97)⟩, SS s5 r) := fun n hn => by
        unfold mulO
        dsimp only
        rw [if_pos ⟨(by show 1 ≤ 16; decide), by omega, by omega⟩, mul_one]
      have m2 : mulO (.int (un : Int)) (.int ((k : Int) % 3)) (SS s5 r) = some (.int ((un : Int) * ((k : Int) % 3)), SS s5 r) := by rw [mulO_int, if_pos (.inl ⟨by omega, by omega⟩)]
      have l2 := la' (SS s5 r) Q (by omega)
      have a1 : addO (.str ⟨Array.replicate ah (fl + 97)⟩) (.str ⟨#[Q + 97]⟩) (SS s5 r) = some (.str ((⟨Array.replicate ah (fl + 97)⟩ : Str) ++ ⟨#[Q + 97]⟩), SS s5 r) := addO_str _ (by simp [Str.length, szl]; omega)
      have a2 : addO (.str ((⟨Array.replicate ah (fl + 97)⟩ : Str) ++ ⟨#[Q + 97]⟩)) (.str ⟨Array.replicate P (fl + 97)⟩) (SS s5 r) = some (.str (nameOf (fl + 97) ah (Q + 97) P), SS s5 r) := by
        rw [← nameOf_eq]
        refine addO_str _ ?_
        show ((Array.replicate ah (fl + 97) ++ #[Q + 97]).size + (Array.replicate P (fl + 97)).size) ≤ _
        simp [szl]; omega
      rw [hnm]
      simp [modO_int, m1 ah (by omega), q1, l2, m2, q2, m1 P (by omega), ha, a1, a2]
    simp [e1, e2, e3, e4, e5, la _ (by omega : fl < 26), rngO_0 (n := count) (by omega)]
    rw [hcomp _ rfl]
    simp
  · unfold List.Nodup
    rw [List.pairwise_map]
    refine List.pairwise_lt_range.imp_of_mem fun {a b} ha hb hab => fun e => ?_
    have ha := List.mem_range.mp ha
    have hb := List.mem_range.mp hb
    exact nameOf_ne (by omega) (congrArg Name.s e)
  · intro x hx
    obtain ⟨k, hk, rfl⟩ := List.mem_map.mp hx
    show 1 ≤ (nameOf _ _ _ _).length ∧ (nameOf _ _ _ _).length ≤ 9
    rw [nameOf_len]
    have := lim k
    omega
end FV

set_option Elab.async false
set_option linter.all false
set_option maxRecDepth 100000
set_option maxHeartbeats 4000000
namespace FV
open PySem PySem.Spec PyProof.Rows L2

def den_Plan_d_initd_ : DenS :=
  (dSetF 0 0 (dVar 0) (dLcB true (dISeq (dVar 1)) [2] (gdName 2) (stepE (dB (dOp gtO (dB' lenO (dCons (dVar 2) dNil)) (dC (.int 0)))) (dB' tupleO (dCons (dVar 2) dNil)))))
def G_Plan_d_initd_ : FnD := starF 1 (bodyF 2 3 den_Plan_d_initd_)

def den_Plan_d_addd_ : DenS :=
  (dRet (dMakeV 0 G_Plan_d_initd_ (dStar (dFld 0 (dVar 0)) (dStar (dFld 0 (dVar 1)) dNil))))
def G_Plan_d_addd_ : FnD := bodyF 2 2 den_Plan_d_addd_

def den_Plan_cuts : DenS :=
  (dSeq (dAsg 1 (dLst dNil))
    (dSeq (dAsg 2 (dC (.int 0)))
    (dSeq (dFor false [3] (dISeq (dFld 0 (dVar 0))) (gdName 3) (dSeq (dAug 2 (dB' lenO (dCons (dVar 3) dNil)) iaddO)
    (dExpr (dApp (dVar 1) (dVar 2)))))
    (dRet (dVar 1)))))
def G_Plan_cuts : FnD := bodyP 1 4 den_Plan_cuts

def den_Plan_walks : DenS :=
  (dRet (dB' tupleO (dCons (dLcB true (dISeq (dFld 0 (dVar 0))) [1, 2] (gdName 1) (stepC dYes (dISeq (dVar 1)) [2] (gdName 2) (stepE dYes (dVar 2)))) dNil)))
def G_Plan_walks : FnD := bodyF 1 3 den_Plan_walks

def den_Plan_d_led_ : DenS :=
  (dSeq (dAsg 2 (dMeth 0 G_Plan_cuts (dVar 0) dNil))
    (dRet (dAndV (dOp eqO (dProp 0 G_Plan_walks (dVar 0)) (dProp 0 G_Plan_walks (dVar 1))) (dB' allO (dCons (dLcB true (dISeq (dMeth 0 G_Plan_cuts (dVar 1) dNil)) [3] (gdName 3) (stepE dYes (dOp inO (dVar 3) (dVar 2)))) dNil)))))
def G_Plan_d_led_ : FnD := bodyF 2 4 den_Plan_d_led_

def den_Plan_d_eqd_ : DenS :=
  (dRet (dAndV (dIsC 0 true (dVar 1)) (dOp eqO (dFld 0 (dVar 0)) (dFld 0 (dVar 1)))))
def G_Plan_d_eqd_ : FnD := bodyF 2 2 den_Plan_d_eqd_


abbrev tupN (g : List Name) : D := .tup (g.map Name.d)
abbrev lstN (g : List Name) : D := .lst (g.map Name.d)
/-- a list or a tuple of names -/
def seqN (p : Bool × List Name) : D := if p.1 = true then tupN p.2 else lstN p.2
def planD (gs : List (List Name)) : D := .ins 0 [(0, .lst (gs.map tupN))]
/-- the groups without the empty ones -/
def ne (gs : List (List Name)) : List (List Name) := gs.filter fun g => decide (0 < g.length)
theorem pure_tupN (g : List Name) : Pure (tupN g) := pure_tup (pures_map (fun _ => pure_str _) g)
theorem pure_lstN (g : List Name) : Pure (lstN g) := pure_lst (pures_map (fun _ => pure_str _) g)
theorem pure_plan (gs : List (List Name)) : Pure (planD gs) := pure_ins fun p hp => by
  rw [List.mem_singleton.mp hp]
  exact pure_lst (pures_map pure_tupN gs)
@[simp] theorem plan_ins (gs : List (List Name)) (st : DSto) : insD (planD gs) st = some (0, [(0, .lst (gs.map tupN))]) := id rfl
@[simp] theorem plan_is (gs : List (List Name)) (st : DSto) (k : Nat) : isIns k (planD gs) st = decide (0 = k) := id rfl
@[simp] theorem plan_fld (gs : List (List Name)) (st : DSto) : fldD 0 (planD gs) st = .ok (.lst (gs.map tupN)) st := id rfl
@[simp] theorem cmp_gt {i j : Int} {st : DSto} : gtO (.int i) (.int j) st = some (.bl (decide (j < i)), st) := id rfl
@[simp] theorem cmp_lt {i j : Int} {st : DSto} : ltO (.int i) (.int j) st = some (.bl (decide (i < j)), st) := id rfl
@[simp] theorem cmp_le {i j : Int} {st : DSto} : leO (.int i) (.int j) st = some (.bl (decide (i ≤ j)), st) := id rfl
@[simp] theorem cmp_ge {i j : Int} {st : DSto} : geO (.int i) (.int j) st = some (.bl (decide (j ≤ i)), st) := id rfl
theorem seqN_len (p : Bool × List Name) (st : DSto) : lenO [seqN p] st = some (.int p.2.length, st) := by
  unfold seqN; split <;> simp
theorem seqN_tup (p : Bool × List Name) (st : DSto) : tupleO [seqN p] st = some (tupN p.2, st) := by
  unfold seqN; split <;> simp
theorem plan_ok {st : DSto} (l : List (Bool × List Name)) (hl : l.length ≤ 100000) : mkObjV 0 G_Plan_d_initd_ (l.map seqN) st = .ok (planD (ne (l.map (·.2)))) st := by
  have sz := szl
  have hc : ∀ ρ : DEnv, ρ.length = 3 → compL [] [2] (gdName 2) (stepE (dB (dOp gtO (dB' lenO (dCons (dVar 2) dNil)) (dC (.int 0)))) (dB' tupleO (dCons (dVar 2) dNil))) ρ (l.map seqN) [] (st ++ [.ins 0 []]) = some ((ne (l.map (·.2))).map tupN, st ++ [.ins 0 []]) := fun ρ hr => by
    rw [compL_filterE seqN (fun p => tupN p.2) (fun p => decide (0 < p.2.length)) rfl l (by omega) fun p hp acc ha => ⟨_, rfl, ?_⟩]
    · congr 1
      unfold ne
      rw [List.filter_map, List.map_map]
      rfl
    · by_cases h : 0 < p.2.length
      · simp [hr, seqN_len, seqN_tup, h, ha]
      · have : p.2.length = 0 := by omega
        simp [hr, seqN_len, this]
  have e1 : mkObj 0 G_Plan_d_initd_ (l.map seqN) st = .ok (.ref st.length) (st ++ [.ins 0 [(0, .lst ((ne (l.map (·.2))).map tupN))]]) := by
    unfold mkObj G_Plan_d_initd_
    rw [starF_ap (by simp) (by simp; omega)]
    simp only [List.take_succ_cons, List.take_zero, List.drop_succ_cons, List.drop_zero, List.cons_append, List.nil_append]
    rw [bodyF_ap (n := 2) rfl]
    simp [den_Plan_d_initd_, hc, setFld]
  rw [mkObjV_ap, e1]
  refine popR_ok ?_ (by simp)
  show fzD _ _ _ = some (.ins 0 [(0, .lst ((ne (l.map (·.2))).map tupN))])
  refine fzD_ins (fs := [(0, .lst ((ne (l.map (·.2))).map tupN))]) (Nat.lt_irrefl _) (by simp) ?_
  simp [rsf, rs, pures_map pure_tupN (ne (l.map (·.2))) _ _]
theorem plan_tups {st : DSto} (gs : List (List Name)) (hl : gs.length ≤ 100000) : mkObjV 0 G_Plan_d_initd_ (gs.map tupN) st = .ok (planD (ne gs)) st := by
  have := plan_ok (st := st) (gs.map fun g => (true, g)) (by simpa using hl)
  simpa [List.map_map, Function.comp_def, seqN] using this
theorem ne_app (a b : List (List Name)) : ne (a ++ b) = ne a ++ ne b := List.filter_append ..
theorem ne_ne {a : List (List Name)} (h : ∀ g ∈ a, g ≠ []) : ne a = a := List.filter_eq_self.mpr fun g hg => decide_eq_true (List.length_pos_iff.mpr (h g hg))
theorem ne_of (a : List (List Name)) : ∀ g ∈ ne a, g ≠ [] := fun g hg => List.length_pos_iff.mp (of_decide_eq_true (List.mem_filter.mp hg).2)
theorem ne_flat : ∀ gs : List (List Name), (ne gs).flatten = gs.flatten
  | [] => rfl
  | [] :: gs => by
    show (ne gs).flatten = [] ++ gs.flatten
    rw [ne_flat gs]; rfl
  | (x :: g) :: gs => by
    show (x :: g) ++ (ne gs).flatten = (x :: g) ++ gs.flatten
    rw [ne_flat gs]
theorem add_ok {st : DSto} {a b : List (List Name)} (hl : a.length + b.length ≤ 100000) (ha : ∀ g ∈ a, g ≠ []) (hb : ∀ g ∈ b, g ≠ []) : own2 0 G_Plan_d_addd_ (planD a) (planD b) st = some (planD (a ++ b), st) := by
  have e := plan_tups (st := st) (a ++ b) (by simpa using hl)
  rw [ne_ne fun g hg => (List.mem_append.mp hg).elim (ha g) (hb g)] at e
  unfold own2
  rw [if_pos ⟨rfl, rfl⟩]
  unfold G_Plan_d_addd_
  rw [bodyF_ap (n := 2) rfl]
  rw [List.map_append] at e
  simp [den_Plan_d_addd_, e, ofR]
/-- the places behind which a group ends -/
def cutsFrom (s : Nat) : List (List Name) → List Nat
  | [] => []
  | g :: gs => (s + g.length) :: cutsFrom (s + g.length) gs
theorem cuts_snoc (g : List Name) : ∀ (gs : List (List Name)) (s : Nat), cutsFrom s (gs ++ [g]) = cutsFrom s gs ++ [s + gs.flatten.length + g.length]
  | [], s => by simp [cutsFrom]
  | h :: gs, s => by
    rw [List.cons_append]
    simp only [cutsFrom]
    rw [cuts_snoc g gs]
    simp [Nat.add_assoc]
theorem cuts_len : ∀ (gs : List (List Name)) (s : Nat), (cutsFrom s gs).length = gs.length
  | [], _ => rfl
  | g :: gs, s => by simp [cutsFrom, cuts_len gs]
theorem cuts_ok {st : DSto} (gs : List (List Name)) (hl : gs.length ≤ 100000) : G_Plan_cuts [planD gs] st = .ok (.lst ((cutsFrom 0 gs).map fun n : Nat => .int n)) st := by
  have sz := szl
  unfold G_Plan_cuts
  rw [bodyP_ap, bodyF_ap (n := 1) rfl]
  have hf := forL_known (c := []) (pop := false) (ws := [3]) (g := gdName 3) (b := dSeq (dAug 2 (dB' lenO (dCons (dVar 3) dNil)) iaddO) (dExpr (dApp (dVar 1) (dVar 2)))) tupN
    (fun p => [some (planD gs), some (.ref st.length), some (.int (p.flatten.length : Nat)), none]) (fun p => st ++ [.lst ((cutsFrom 0 p).map fun n : Nat => .int n)]) gs (fun _ _ _ => rfl)
    (fun p x q e => ⟨_, _, [some (planD gs), some (.ref st.length), some (.int ((p ++ [x]).flatten.length : Nat)), some (tupN x)], st ++ [.lst ((cutsFrom 0 (p ++ [x])).map fun n : Nat => .int n)], rfl, .inl (by
      have hp : p.length < 100001 := by
        have := congrArg List.length e
        simp at this
        omega
      have hp2 : (cutsFrom 0 p).length < sizeLine := by rw [cuts_len]; omega
      have e1 : ((p.flatten.length : Int) + (x.length : Int)) = (((p ++ [x]).flatten.length : Nat) : Int) := by simp
      have e2 : (cutsFrom 0 p ++ [0 + p.flatten.length + x.length]).map (fun n : Nat => D.int n) = (cutsFrom 0 p).map (fun n : Nat => D.int n) ++ [.int (((p ++ [x]).flatten.length : Nat) : Int)] := by simp
      rw [cuts_snoc, e2]
      simp only [dSeq_ap, dAug_ap, dB'_ap, dCons_ap, dVar_ap, dNil_ap, List.set_cons_succ, List.set_cons_zero, List.getElem?_cons_succ, List.getElem?_cons_zero, DRes.bind_ok, lenO_tup, ofO_some, toS_ok, iaddO_int, List.length_map, e1, andThen_nx, dExpr_ap, dApp_ap, List.getElem?_concat_length]
      rw [if_pos hp2]
      simp), by simp⟩)
  simp only [List.flatten_nil, List.length_nil, cutsFrom, List.map_nil] at hf
  have e1 : (den_Plan_cuts (List.map some [planD gs] ++ List.replicate (4 - [planD gs].length) none) st) = .rt (.ref st.length) (st ++ [.lst ((cutsFrom 0 gs).map fun n : Nat => .int n)]) := by
    simp [den_Plan_cuts]
    simp at hf
    rw [hf]
    simp
  rw [e1]
  exact popR_ok (fzD_lst (by simp) (by simp) (pures_map (fun _ => pure_int _) _)) (by simp)
theorem walks_ok {st : DSto} (gs : List (List Name)) (hl : gs.flatten.length ≤ 100000) : G_Plan_walks [planD gs] st = .ok (tupN gs.flatten) st := by
  have sz := szl
  unfold G_Plan_walks
  rw [bodyF_ap (n := 1) rfl]
  have hc : ∀ ρ : DEnv, ρ.length = 3 → compL [] [1, 2] (gdName 1) (stepC dYes (dISeq (dVar 1)) [2] (gdName 2) (stepE dYes (dVar 2))) ρ (gs.map tupN) [] st = some (gs.flatten.map Name.d, st) := fun ρ hr => by
    obtain ⟨acc, st', e, rfl, rfl⟩ := compL_inv (c := []) (vs := [1, 2]) (g := gdName 1) (step := stepC dYes (dISeq (dVar 1)) [2] (gdName 2) (stepE dYes (dVar 2))) (ρ := ρ) tupN (fun p acc st' => acc = p.flatten.map Name.d ∧ st' = st) gs [] [] st ⟨rfl, rfl⟩ (fun _ _ _ _ => rfl)
      (by
        rintro p x q acc st' hpq ⟨rfl, rfl⟩
        refine ⟨_, _, (p ++ [x]).flatten.map Name.d, st', rfl, ?_, rfl, rfl⟩
        have hle : p.flatten.length + x.length ≤ 100000 := by
          have := congrArg (fun l : List (List Name) => l.flatten.length) hpq
          simp only [List.nil_append, List.flatten_append, List.flatten_cons, List.length_append] at this
          omega
        have h2 : ∀ ρ' : DEnv, ρ'.length = 3 → compL [] [2] (gdName 2) (stepE dYes (dVar 2)) ρ' (x.map Name.d) (p.flatten.map Name.d) st' = some ((p.flatten.map Name.d) ++ x.flatMap (fun n => [n.d]), st') := fun ρ' h => by
          refine compL_add Name.d (fun n => [n.d]) rfl x _ (fun n hn acc ha => ⟨_, rfl, ?_⟩) (by rw [flatMap_one, List.length_map, List.length_map]; omega)
          simp [h, ha]
        simp [hr, h2, flatMap_one, -List.map_flatten])
    simpa [-List.map_flatten] using e
  simp [den_Plan_walks, hc]
/-- a is as fine as b -/
def planLe (a b : List (List Name)) : Bool := decide (a.flatten = b.flatten) && (cutsFrom 0 b).all fun c => decide (c ∈ cutsFrom 0 a)
theorem nat_inj {a b : Nat} (h : D.int (a : Int) = D.int (b : Int)) : a = b := by
  have := D.int.inj h
  omega
theorem le_ok {st : DSto} {a b : List (List Name)} (ha : a.flatten.length ≤ 100000) (hb : b.flatten.length ≤ 100000) (ha2 : a.length ≤ 100000) (hb2 : b.length ≤ 100000) : own2 0 G_Plan_d_led_ (planD a) (planD b) st = some (.bl (planLe a b), st) := by
  have sz := szl
  unfold own2
  rw [if_pos ⟨rfl, rfl⟩]
  unfold G_Plan_d_led_
  rw [bodyF_ap (n := 2) rfl]
  have hc : compL [] [3] (gdName 3) (stepE dYes (dOp inO (dVar 3) (dVar 2))) [some (planD a), some (planD b), some (.lst ((cutsFrom 0 a).map fun n : Nat => .int n)), none] ((cutsFrom 0 b).map fun n : Nat => .int n) [] st = some ((cutsFrom 0 b).map fun c => .bl (decide (c ∈ cutsFrom 0 a)), st) := by
    refine compL_mapE _ _ rfl _ (by rw [cuts_len]; omega) fun c hc acc ha => ⟨_, rfl, ?_⟩
    have e : inO (.int (c : Int)) (.lst ((cutsFrom 0 a).map fun n : Nat => .int n)) st = some (.bl (decide (c ∈ cutsFrom 0 a)), st) := by
      rw [inO_eqd (eqd_int _) (eqd_map (f := fun n : Nat => D.int (n : Int)) fun n _ => eqd_int n)]
      simp only [mem_map_inj (f := fun n : Nat => D.int (n : Int)) fun _ _ => nat_inj]
    simp [e, ha]
  have e0 : eqO (tupN a.flatten) (tupN b.flatten) st = some (.bl (decide (a.flatten = b.flatten)), st) := by
    rw [eqO_eqd (eqd_tup (strs_eqd _)) (eqd_tup (strs_eqd _))]
    simp only [D.tup.injEq, strs_inj]
  have e1 := blsD_map (fun c => decide (c ∈ cutsFrom 0 a)) (cutsFrom 0 b)
  simp only [List.map_cons, List.map_nil, List.length_cons, List.length_nil, List.cons_append, List.nil_append, Nat.reduceSub, Nat.reduceAdd, List.reduceReplicate, den_Plan_d_led_, dSeq_ap, dAsg_ap, dMeth_ap, dVar_ap, List.getElem?_cons_zero, List.getElem?_cons_succ, DRes.bind_ok, plan_is, decide_true, if_true, dNil_ap, cuts_ok a ha2, toS_ok, andThen_nx, List.set_cons_succ, List.set_cons_zero, dRet_ap, dAndV_ap, dOp_ap, dProp_ap, walks_ok a ha, walks_ok b hb, e0, ofO_some]
  unfold planLe
  cases h : decide (a.flatten = b.flatten) with
  | false => simp [ofR]
  | true =>
    simp only [dB'_ap, dCons_ap, dLcB_ap, dISeq_ap, dMeth_ap, dVar_ap, List.getElem?_cons_zero, List.getElem?_cons_succ, DRes.bind_ok, plan_is, decide_true, if_true, dNil_ap, cuts_ok b hb2, hc, lcEnd_t, allO_lst, e1, Option.map_some, ofO_some, toS_ok, ofR, Bool.true_and]
    simp [List.all_map, Function.comp_def]
theorem eq_ok {st : DSto} {a b : List (List Name)} : own2 0 G_Plan_d_eqd_ (planD a) (planD b) st = some (.bl (decide (a = b)), st) := by
  unfold own2
  rw [if_pos ⟨rfl, rfl⟩]
  unfold G_Plan_d_eqd_
  rw [bodyF_ap (n := 2) rfl]
  have e0 : eqO (.lst (a.map tupN)) (.lst (b.map tupN)) st = some (.bl (decide (a = b)), st) := by
    rw [eqO_eqd (eqd_lst (eqd_map fun g _ => eqd_tup (strs_eqd g))) (eqd_lst (eqd_map fun g _ => eqd_tup (strs_eqd g)))]
    have : ∀ g h : List Name, tupN g = tupN h → g = h := fun g h e => strs_inj.mp (D.tup.inj e)
    simp only [D.lst.injEq, map_inj' this]
  simp [den_Plan_d_eqd_, e0, ofR]
/-! ### the mathematics of <= -/
section
theorem cuts_mem : ∀ (gs : List (List Name)) (s c : Nat), c ∈ cutsFrom s gs ↔ ∃ i < gs.length, c = s + (gs.take (i + 1)).flatten.length
  | [], s, c => by simp [cutsFrom]
  | g :: gs, s, c => by
    simp only [cutsFrom, List.mem_cons, cuts_mem gs]
    constructor
    · rintro (rfl | ⟨i, hi, rfl⟩)
      · exact ⟨0, by simp, by simp⟩
      · exact ⟨i + 1, by simpa using hi, by simp [Nat.add_assoc]⟩
    · rintro ⟨i, hi, rfl⟩
      cases i with
      | zero => exact .inl (by simp)
      | succ i => exact .inr ⟨i, by simpa using hi, by simp [Nat.add_assoc]⟩
/-- the names ahead of the group i -/
def pos (gs : List (List Name)) (i : Nat) : Nat := (gs.take i).flatten.length
theorem pos_succ {gs : List (List Name)} {i : Nat} (h : i < gs.length) : pos gs (i + 1) = pos gs i + gs[i].length := by
  unfold pos
  rw [List.take_add_one, List.getElem?_eq_getElem h]
  show ((gs.take i) ++ [gs[i]]).flatten.length = _
  rw [List.flatten_append, List.length_append, List.flatten_cons, List.flatten_nil, List.append_nil]
theorem pos_lt {gs : List (List Name)} (hn : ∀ g ∈ gs, g ≠ []) {i : Nat} (h : i < gs.length) : pos gs i < pos gs (i + 1) := by
  rw [pos_succ h]
  have := List.length_pos_iff.mpr (hn _ (List.getElem_mem h))
  omega
theorem pos_mono {gs : List (List Name)} : ∀ {i j : Nat}, i ≤ j → pos gs i ≤ pos gs j := fun {i j} h => by
  obtain ⟨k, rfl⟩ := Nat.exists_eq_add_of_le h
  induction k with
  | zero => exact Nat.le_refl _
  | succ k ih =>
    refine Nat.le_trans (ih (by omega)) ?_
    by_cases q : i + k < gs.length
    · have := pos_succ q
      rw [show i + (k + 1) = i + k + 1 by omega]
      omega
    · unfold pos
      rw [List.take_of_length_le (by omega), List.take_of_length_le (by omega)]
      exact Nat.le_refl _
theorem pos_all (gs : List (List Name)) : pos gs gs.length = gs.flatten.length := by unfold pos; rw [List.take_length]
theorem locate (gs : List (List Name)) {x : Nat} (h : x < gs.flatten.length) : ∃ i < gs.length, pos gs i ≤ x ∧ x < pos gs (i + 1) := by
  rw [← pos_all] at h
  have : ∀ n, n ≤ gs.length → x < pos gs n → ∃ i < n, pos gs i ≤ x ∧ x < pos gs (i + 1) := by
    intro n
    induction n with
    | zero => intro _ h; simp [pos] at h
    | succ n ih =>
      intro hn h
      by_cases q : x < pos gs n
      · obtain ⟨i, hi, h1⟩ := ih (by omega) q
        exact ⟨i, by omega, h1⟩
      · exact ⟨n, by omega, by omega, h⟩
  exact this _ (Nat.le_refl _) h
theorem planLe_iff {a b : List (List Name)} : planLe a b = true ↔ a.flatten = b.flatten ∧ ∀ j < b.length, ∃ i < a.length, pos b (j + 1) = pos a (i + 1) := by
  unfold planLe
  rw [Bool.and_eq_true, decide_eq_true_iff, List.all_eq_true]
  refine and_congr Iff.rfl ⟨fun h j hj => ?_, fun h c hc => ?_⟩
  · have := h (pos b (j + 1)) ((cuts_mem b 0 _).mpr ⟨j, hj, by simp [pos]⟩)
    obtain ⟨i, hi, e⟩ := (cuts_mem a 0 _).mp (of_decide_eq_true this)
    exact ⟨i, hi, by simpa [pos] using e⟩
  · obtain ⟨j, hj, rfl⟩ := (cuts_mem b 0 _).mp hc
    obtain ⟨i, hi, e⟩ := h j hj
    exact decide_eq_true ((cuts_mem a 0 _).mpr ⟨i, hi, by simpa [pos] using e⟩)
/-- every group of a lies within a group of b -/
theorem within_iff {a b : List (List Name)} (ha : ∀ g ∈ a, g ≠ []) (hb : ∀ g ∈ b, g ≠ []) (e : a.flatten = b.flatten) :
    (∀ j < b.length, ∃ i < a.length, pos b (j + 1) = pos a (i + 1)) ↔ ∀ i < a.length, ∃ j < b.length, pos b j ≤ pos a i ∧ pos a (i + 1) ≤ pos b (j + 1) := by
  have tot : a.flatten.length = b.flatten.length := by rw [e]
  constructor
  · intro h i hi
    have l1 := pos_lt ha hi
    have l2 : pos a (i + 1) ≤ a.flatten.length := by rw [← pos_all]; exact pos_mono hi
    obtain ⟨j, hj, h1, h2⟩ := locate b (x := pos a i) (by omega)
    obtain ⟨k, hk, h3⟩ := h j hj
    refine ⟨j, hj, h1, ?_⟩
    have : i < k + 1 := by
      refine Classical.byContradiction fun q => ?_
      have := pos_mono (gs := a) (show k + 1 ≤ i by omega)
      omega
    have := pos_mono (gs := a) (show i + 1 ≤ k + 1 by omega)
    omega
  · intro h j hj
    have l1 := pos_lt hb hj
    have l2 : pos b (j + 1) ≤ b.flatten.length := by rw [← pos_all]; exact pos_mono hj
    obtain ⟨i, hi, h1, h2⟩ := locate a (x := pos b (j + 1) - 1) (by omega)
    obtain ⟨k, hk, h3, h4⟩ := h i hi
    refine ⟨i, hi, ?_⟩
    have : k < j + 1 := by
      refine Classical.byContradiction fun q => ?_
      have := pos_mono (gs := b) (show j + 1 ≤ k by omega)
      omega
    have := pos_mono (gs := b) (show k + 1 ≤ j + 1 by omega)
    omega
theorem planLe_refl (a : List (List Name)) : planLe a a = true := planLe_iff.mpr ⟨rfl, fun j hj => ⟨j, hj, rfl⟩⟩
theorem planLe_trans {a b c : List (List Name)} (h : planLe a b = true) (k : planLe b c = true) : planLe a c = true := by
  obtain ⟨e1, h⟩ := planLe_iff.mp h
  obtain ⟨e2, k⟩ := planLe_iff.mp k
  refine planLe_iff.mpr ⟨e1.trans e2, fun j hj => ?_⟩
  obtain ⟨i, hi, e3⟩ := k j hj
  obtain ⟨l, hl, e4⟩ := h i hi
  exact ⟨l, hl, e3.trans e4⟩
theorem cuts_gt : ∀ {gs : List (List Name)} {s c : Nat}, (∀ g ∈ gs, g ≠ []) → c ∈ cutsFrom s gs → s < c
  | [], s, c, _, h => by cases h
  | g :: gs, s, c, hn, h => by
    have l := List.length_pos_iff.mpr (hn g List.mem_cons_self)
    rcases List.mem_cons.mp h with rfl | h
    · omega
    · have := cuts_gt (fun x hx => hn x (List.mem_cons_of_mem _ hx)) h
      omega
theorem cuts_anti : ∀ {a b : List (List Name)} {s : Nat}, (∀ g ∈ a, g ≠ []) → (∀ g ∈ b, g ≠ []) → a.flatten = b.flatten → (∀ c, c ∈ cutsFrom s a ↔ c ∈ cutsFrom s b) → a = b
  | [], [], _, _, _, _, _ => rfl
  | [], g :: b, s, _, hb, e, _ => by
    have := hb g List.mem_cons_self
    cases g with
    | nil => exact absurd rfl this
    | cons x g => simp at e
  | g :: a, [], s, ha, _, e, _ => by
    have := ha g List.mem_cons_self
    cases g with
    | nil => exact absurd rfl this
    | cons x g => simp at e
  | g :: a, k :: b, s, ha, hb, e, h => by
    have ha' : ∀ x ∈ a, x ≠ [] := fun x hx => ha x (List.mem_cons_of_mem _ hx)
    have hb' : ∀ x ∈ b, x ≠ [] := fun x hx => hb x (List.mem_cons_of_mem _ hx)
    have l1 : g.length = k.length := by
      have h1 := (h (s + g.length)).mp List.mem_cons_self
      have h2 := (h (s + k.length)).mpr List.mem_cons_self
      rcases List.mem_cons.mp h1 with h1 | h1
      · omega
      · rcases List.mem_cons.mp h2 with h2 | h2
        · omega
        · have := cuts_gt hb' h1
          have := cuts_gt ha' h2
          omega
    rw [List.flatten_cons, List.flatten_cons] at e
    obtain ⟨rfl, e2⟩ := List.append_inj e l1
    have := cuts_anti (s := s + g.length) ha' hb' e2 fun c => by
      have hc := h c
      simp only [cutsFrom, List.mem_cons] at hc
      constructor
      · intro hm
        have := cuts_gt ha' hm
        rcases hc.mp (.inr hm) with z | z
        · omega
        · exact z
      · intro hm
        have := cuts_gt hb' hm
        rcases hc.mpr (.inr hm) with z | z
        · omega
        · exact z
    rw [this]
theorem planLe_anti {a b : List (List Name)} (ha : ∀ g ∈ a, g ≠ []) (hb : ∀ g ∈ b, g ≠ []) (h : planLe a b = true) (k : planLe b a = true) : a = b := by
  unfold planLe at h k
  rw [Bool.and_eq_true, decide_eq_true_iff, List.all_eq_true] at h k
  exact cuts_anti ha hb h.1 fun c => ⟨fun m => of_decide_eq_true (k.2 c m), fun m => of_decide_eq_true (h.2 c m)⟩
end
end FV

set_option Elab.async false
set_option linter.all false
set_option maxRecDepth 100000
set_option maxHeartbeats 4000000
namespace K11
open PySem PySem.Spec PyProof.Rows FV

def den_law_cut : DenS :=
  (dSeq (dAsg 2 (dLst dNil))
    (dSeq (dFor false [3] (dISeq (dVar 1)) (gdName 3) (dIfS (dOr (dB (dOp eqO (dB' lenO (dCons (dVar 2) dNil)) (dC (.int 0)))) (dB (dOp eqO (dCall G_law_draw (dCons (dVar 0) (dCons (dC (.int 3)) dNil))) (dC (.int 1))))) (dExpr (dApp (dVar 2) (dLst (dCons (dVar 3) dNil)))) (dExpr (dApp (dOp ixO (dVar 2) (dOp subO (dB' lenO (dCons (dVar 2) dNil)) (dC (.int 1)))) (dVar 3)))))
    (dRet (dVar 2))))
def G_law_cut : FnD := bodyP 2 4 den_law_cut

def den_law_plan : DenS :=
  (dSeq (dAsg 1 (dMakeV 0 G_Plan_d_initd_ dNil))
    (dSeq (dFor false [2] (dISeq (dVar 0)) (gdName 2) (dAsg 1 (dOp (own2 0 G_Plan_d_addd_) (dVar 1) (dMakeV 0 G_Plan_d_initd_ (dCons (dB' listO (dCons (dVar 2) dNil)) dNil)))))
    (dRet (dVar 1))))
def G_law_plan : FnD := bodyF 1 3 den_law_plan

def den_law_within : DenS :=
  (dSeq (dAsg 2 (dLstV dNil))
    (dSeq (dFor false [3] (dISeq (dVar 0)) (gdName 3) (dAsg 2 (dOp addO (dVar 2) (dVar 3))))
    (dSeq (dAsg 4 (dLstV dNil))
    (dSeq (dFor false [3] (dISeq (dVar 1)) (gdName 3) (dAsg 4 (dOp addO (dVar 4) (dVar 3))))
    (dSeq (dIfS (dB (dOp neO (dVar 2) (dVar 4))) (dRet (dC (.bl false))) dSkip)
    (dSeq (dAsg 5 (dLcB true (dIRng1 (dB' lenO (dCons (dVar 0) dNil))) [7] (gdName 7) (stepE dYes (dB' sumO (dCons (dLcB true (dISeq (dSl (dVar 0) none (some (dVar 7)))) [3] (gdName 3) (stepE dYes (dB' lenO (dCons (dVar 3) dNil)))) dNil)))))
    (dSeq (dAsg 6 (dLcB true (dIRng1 (dOp addO (dB' lenO (dCons (dVar 1) dNil)) (dC (.int 1)))) [7] (gdName 7) (stepE dYes (dB' sumO (dCons (dLcB true (dISeq (dSl (dVar 1) none (some (dVar 7)))) [3] (gdName 3) (stepE dYes (dB' lenO (dCons (dVar 3) dNil)))) dNil)))))
    (dSeq (dFor false [7, 8] (dIRng1 (dB' lenO (dCons (dVar 0) dNil))) (gdName 7) (dSeq (dAsg 8 (dOp addO (dOp ixO (dVar 5) (dVar 7)) (dB' lenO (dCons (dOp ixO (dVar 0) (dVar 7)) dNil))))
    (dIfS (dNot (dB (dB' anyO (dCons (dLcB true (dIRng1 (dB' lenO (dCons (dVar 1) dNil))) [9] (gdName 9) (stepE dYes (dAndV (dOp leO (dOp ixO (dVar 6) (dVar 9)) (dOp ixO (dVar 5) (dVar 7))) (dOp leO (dVar 8) (dOp ixO (dVar 6) (dOp addO (dVar 9) (dC (.int 1)))))))) dNil)))) (dRet (dC (.bl false))) dSkip)))
    (dRet (dC (.bl true)))))))))))
def G_law_within : FnD := bodyF 2 10 den_law_within

def den_law : DenS :=
  (dSeq (dAsg 1 (dCall G_law_source (dCons (dVar 0) dNil)))
    (dSeq (dAsg 2 (dCall G_law_names (dCons (dVar 1) (dCons (dC (.int 4)) dNil))))
    (dSeq (dAsg 3 (dLcB true (dIRng1 (dCall G_law_draw (dCons (dVar 1) (dCons (dC (.int 11)) dNil)))) [11] (gdName 11) (stepE dYes (dOp ixO (dVar 2) (dCall G_law_draw (dCons (dVar 1) (dCons (dC (.int 4)) dNil)))))))
    (dSeq (dAsg 4 (dLst (dCons (dCall G_law_cut (dCons (dVar 1) (dCons (dVar 3) dNil))) (dCons (dCall G_law_cut (dCons (dVar 1) (dCons (dVar 3) dNil))) (dCons (dCall G_law_cut (dCons (dVar 1) (dCons (dVar 3) dNil))) dNil)))))
    (dSeq (dAsg 5 (dCall G_law_draw (dCons (dVar 1) (dCons (dC (.int 6)) dNil))))
    (dSeq (dIfS (dB (dOp eqO (dVar 5) (dC (.int 4)))) (dAsgG (dOp addO (dOp ixO (dVar 4) (dC (.int 1))) (dLstV (dCons (dLstV (dCons (dOp ixO (dVar 2) (dCall G_law_draw (dCons (dVar 1) (dCons (dC (.int 4)) dNil)))) dNil)) dNil))) (gdSub (dVar 4) (dC (.int 1)) setO)) dSkip)
    (dSeq (dIfS (dAnd (dB (dOp eqO (dVar 5) (dC (.int 5)))) (dB (dOp gtO (dB' lenO (dCons (dVar 3) dNil)) (dC (.int 0))))) (dSeq (dAsg 10 (dCall G_law_draw (dCons (dVar 1) (dCons (dB' lenO (dCons (dVar 3) dNil)) dNil))))
    (dAsgG (dCall G_law_cut (dCons (dVar 1) (dCons (dOp addO (dOp addO (dSl (dVar 3) none (some (dVar 10))) (dLstV (dCons (dOp ixO (dVar 2) (dCall G_law_draw (dCons (dVar 1) (dCons (dC (.int 4)) dNil)))) dNil))) (dSl (dVar 3) (some (dOp addO (dVar 10) (dC (.int 1)))) none)) dNil))) (gdSub (dVar 4) (dC (.int 2)) setO))) dSkip)
    (dSeq (dAsg 6 (dLcB true (dISeq (dVar 4)) [12] (gdName 12) (stepE dYes (dCall G_law_plan (dCons (dVar 12) dNil)))))
    (dSeq (dFor false [7, 11, 13, 14] (dIRng1 (dC (.int 3))) (gdName 7) (dFor false [11, 13, 14] (dIRng1 (dC (.int 3))) (gdName 11) (dSeq (dAsg 13 (dOp (own2 0 G_Plan_d_led_) (dOp ixO (dVar 6) (dVar 7)) (dOp ixO (dVar 6) (dVar 11))))
    (dSeq (dIfS (dOr (dNot (dB (dIsTy "bool" (dVar 13)))) (dB (dOp neO (dVar 13) (dCall G_law_within (dCons (dOp ixO (dVar 4) (dVar 7)) (dCons (dOp ixO (dVar 4) (dVar 11)) dNil)))))) (dRet (dC (.bl false))) dSkip)
    (dSeq (dIfS (dAnd (dB (dVar 13)) (dAnd (dB (dOp (own2 0 G_Plan_d_led_) (dOp ixO (dVar 6) (dVar 11)) (dOp ixO (dVar 6) (dVar 7)))) (dB (dOp nisO (dOp (own2 0 G_Plan_d_eqd_) (dOp ixO (dVar 6) (dVar 7)) (dOp ixO (dVar 6) (dVar 11))) (dC (.bl true)))))) (dRet (dC (.bl false))) dSkip)
    (dFor false [14] (dIRng1 (dC (.int 3))) (gdName 14) (dIfS (dAnd (dB (dVar 13)) (dAnd (dB (dOp (own2 0 G_Plan_d_led_) (dOp ixO (dVar 6) (dVar 11)) (dOp ixO (dVar 6) (dVar 14)))) (dB (dOp nisO (dOp (own2 0 G_Plan_d_led_) (dOp ixO (dVar 6) (dVar 7)) (dOp ixO (dVar 6) (dVar 14))) (dC (.bl true)))))) (dRet (dC (.bl false))) dSkip)))))))
    (dSeq (dAsg 8 (dCall G_law_plan (dCons (dLcB true (dISeq (dVar 3)) [15] (gdName 15) (stepE dYes (dLstV (dCons (dVar 15) dNil)))) dNil)))
    (dSeq (dAsg 9 (dCall G_law_plan (dCons (dLstV (dCons (dVar 3) dNil)) dNil)))
    (dRet (dAndV (dOp (own2 0 G_Plan_d_led_) (dVar 8) (dOp ixO (dVar 6) (dC (.int 0)))) (dAndV (dOp (own2 0 G_Plan_d_led_) (dOp ixO (dVar 6) (dC (.int 0))) (dVar 9)) (dAndV (dOp (own2 0 G_Plan_d_led_) (dVar 8) (dVar 9)) (dOp eqO (dOp (own2 0 G_Plan_d_led_) (dVar 9) (dVar 8)) (dOp ltO (dB' lenO (dCons (dVar 3) dNil)) (dC (.int 2)))))))))))))))))))
def G_law : FnD := bodyP 1 16 den_law
end K11

set_option Elab.async false
set_option linter.all false
set_option maxRecDepth 100000
set_option maxHeartbeats 4000000
namespace K11
open PySem PySem.Spec PyProof.Rows L2 FV
def top (i : Nat) : Stmt := PySem.Challenge.pw_fusewalks_k11_plan_order.main.body.getD i (.Pass ⟨0, 0, 0, 0⟩)
theorem u65 {k : Nat} {A : Around} (r : Room k A) : A.units + 65 < cLine := by have := r.un; omega
abbrev st_law_source : Stmt := top 4
theorem sc_law_source : FnScope [(PySem.Str.ofString "_law_script"), (PySem.Str.ofString "_law_cells"), (PySem.Str.ofString "_law_cell")] [(PySem.Str.ofString "_law_script")] (defScope st_law_source) := ⟨rfl, rfl, rfl, by decide +kernel, rfl, by decide +kernel, by decide +kernel⟩
theorem bx_law_source {P : Program} {w : World} {T : Tb} {mg : Str → Option Value} {base : Heap} {f : Addr} (hT : TW P w T) (m_int : mg (PySem.Str.ofString "int") = none) (m_sum : mg (PySem.Str.ofString "sum") = none) : BodyX P w T mg base 0 [(PySem.Str.ofString "_law_script"), (PySem.Str.ofString "_law_cells"), (PySem.Str.ofString "_law_cell")] (PySem.Str.ofString "_law_source") st_law_source f den_law_source := by
  intro cdv A outer s H E hr
  exact (pssx_cons (psx_setLc false 1 (own := [((PySem.Str.ofString "_law_cell"), 2)]) rfl sc_law_source.nd (pix_seq fits_body (px_slice rfl (px_var 0) pox_none (pox_some px_int))) (ok := (show BlkOk [(PySem.Str.ofString "_law_script"), (PySem.Str.ofString "_law_cells"), (PySem.Str.ofString "_law_cell")] (defScope st_law_source) _ [((PySem.Str.ofString "_law_cell"), 2)] from ⟨rfl, by decide +kernel, by decide +kernel, by decide +kernel, by decide +kernel⟩)) (by decide) (fun _ _ _ _ _ => (pgx_name 2 sc_law_source.nd)) (fun _ _ _ _ _ => ptsx_nil) (fun _ _ _ _ _ => (px_callTy (cx_int) m_int (pax_cons (px_var 2) pax_nil))))
    (pssx_one (psx_ret (px_lst (pax_cons (px_var 1) (pax_cons (px_lc true (own := [((PySem.Str.ofString "_law_cell"), 2)]) rfl sc_law_source.nd (pix_seq fits_body (px_var 1)) (ok := (show BlkOk [(PySem.Str.ofString "_law_script"), (PySem.Str.ofString "_law_cells"), (PySem.Str.ofString "_law_cell")] (defScope st_law_source) _ [((PySem.Str.ofString "_law_cell"), 2)] from ⟨rfl, by decide +kernel, by decide +kernel, by decide +kernel, by decide +kernel⟩)) (by decide) (fun _ _ _ _ _ => (pgx_name 2 sc_law_source.nd)) (fun _ _ _ _ _ => ptsx_nil) (fun _ _ _ _ _ => (px_cmp (ox_ge) (px_var 2) (px_op (ox_pow) px_int px_int)))) (pax_cons px_int (pax_cons px_int (pax_cons (px_op (ox_mod) (px_callTy (cx_int) m_int (pax_cons (px_callB (cx_sum rfl) m_sum (pax_cons (px_var 1) pax_nil)) pax_nil)) px_int) pax_nil)))))))))
abbrev st_law_draw : Stmt := top 5
theorem sc_law_draw : FnScope [(PySem.Str.ofString "_law_source_here"), (PySem.Str.ofString "_law_many"), (PySem.Str.ofString "_law_cells"), (PySem.Str.ofString "_law_at"), (PySem.Str.ofString "_law_mixed"), (PySem.Str.ofString "_law_number")] [(PySem.Str.ofString "_law_source_here"), (PySem.Str.ofString "_law_many")] (defScope st_law_draw) := ⟨rfl, rfl, rfl, by decide +kernel, rfl, by decide +kernel, by decide +kernel⟩
theorem bx_law_draw {P : Program} {w : World} {T : Tb} {mg : Str → Option Value} {base : Heap} {f : Addr} (hT : TW P w T) (m_len : mg (PySem.Str.ofString "len") = none) (m_int : mg (PySem.Str.ofString "int") = none) : BodyX P w T mg base 0 [(PySem.Str.ofString "_law_source_here"), (PySem.Str.ofString "_law_many"), (PySem.Str.ofString "_law_cells"), (PySem.Str.ofString "_law_at"), (PySem.Str.ofString "_law_mixed"), (PySem.Str.ofString "_law_number")] (PySem.Str.ofString "_law_draw") st_law_draw f den_law_draw := by
  intro cdv A outer s H E hr
  exact (pssx_cons (psx_set 2 sc_law_draw.nd (px_ix ⟨rfl, hT.1.symm, hT.2.symm⟩ (u65 hr) (px_var 0) px_int))
    (pssx_cons (psx_set 3 sc_law_draw.nd (px_ix ⟨rfl, hT.1.symm, hT.2.symm⟩ (u65 hr) (px_var 0) px_int))
    (pssx_cons (psx_if (ptx_cmp (ox_lt) (px_var 3) (px_callB (cx_len ⟨rfl, hT.1.symm, hT.2.symm⟩) m_len (pax_cons (px_var 2) pax_nil))) (pssx_cons (psx_set 5 sc_law_draw.nd (px_ix ⟨rfl, hT.1.symm, hT.2.symm⟩ (u65 hr) (px_var 2) (px_var 3)))
    (pssx_cons (psx_asg (px_op (ox_fdiv) (px_var 5) (px_var 1)) (pgx_sub (W := WN) (px_var 2) (px_var 3) (sx_set ⟨rfl, hT.1.symm, hT.2.symm⟩ (u65 hr))))
    (pssx_cons (psx_if (ptx_bool (pwx_or (ptx_not (ptx_val (px_ix ⟨rfl, hT.1.symm, hT.2.symm⟩ (u65 hr) (px_ix ⟨rfl, hT.1.symm, hT.2.symm⟩ (u65 hr) (px_var 0) px_int) (px_var 3)))) (pwx_or1 (ptx_cmp (ox_eq rfl hr.units) (px_ix ⟨rfl, hT.1.symm, hT.2.symm⟩ (u65 hr) (px_var 2) (px_var 3)) px_int)))) (pssx_one (psx_asg (px_op (ox_add rfl) (px_var 3) px_int) (pgx_sub (W := WN) (px_var 0) px_int (sx_set ⟨rfl, hT.1.symm, hT.2.symm⟩ (u65 hr))))) pssx_nil)
    (pssx_one (psx_ret (px_op (ox_mod) (px_callTy (cx_int) m_int (pax_cons (px_var 5) pax_nil)) (px_var 1))))))) pssx_nil)
    (pssx_cons (psx_if (ptx_cmp (ox_eq rfl hr.units) (px_ix ⟨rfl, hT.1.symm, hT.2.symm⟩ (u65 hr) (px_var 0) px_int) px_int) (pssx_one (psx_ret px_int)) pssx_nil)
    (pssx_cons (psx_asg (px_op (ox_add rfl) (px_ix ⟨rfl, hT.1.symm, hT.2.symm⟩ (u65 hr) (px_var 0) px_int) px_int) (pgx_sub (W := WN) (px_var 0) px_int (sx_set ⟨rfl, hT.1.symm, hT.2.symm⟩ (u65 hr))))
    (pssx_cons (psx_set 4 sc_law_draw.nd (px_op (ox_mod) (px_callTy (cx_int) m_int (pax_cons (px_op (ox_mul) (px_op (ox_add rfl) (px_ix ⟨rfl, hT.1.symm, hT.2.symm⟩ (u65 hr) (px_var 0) px_int) (px_op (ox_mul) (px_ix ⟨rfl, hT.1.symm, hT.2.symm⟩ (u65 hr) (px_var 0) px_int) px_int)) px_int) pax_nil)) px_int))
    (pssx_one (psx_ret (px_op (ox_mod) (px_op (ox_fdiv) (px_op (ox_mod) (px_callTy (cx_int) m_int (pax_cons (px_op (ox_mul) (px_var 4) (px_var 4)) pax_nil)) px_int) px_int) (px_var 1))))))))))
abbrev st_law_names : Stmt := top 6
theorem sc_law_names : FnScope [(PySem.Str.ofString "_law_source_here"), (PySem.Str.ofString "_law_count"), (PySem.Str.ofString "_law_letters"), (PySem.Str.ofString "_law_ahead"), (PySem.Str.ofString "_law_behind"), (PySem.Str.ofString "_law_uneven"), (PySem.Str.ofString "_law_first"), (PySem.Str.ofString "_law_fill"), (PySem.Str.ofString "_law_k")] [(PySem.Str.ofString "_law_source_here"), (PySem.Str.ofString "_law_count")] (defScope st_law_names) := ⟨rfl, rfl, rfl, by decide +kernel, rfl, by decide +kernel, by decide +kernel⟩
theorem bx_law_names {P : Program} {w : World} {T : Tb} {mg : Str → Option Value} {base : Heap} {f : Addr} (hT : TW P w T) (h_law_draw : FnG P w T mg base 1 (PySem.Str.ofString "_law_draw") G_law_draw) (m_range : mg (PySem.Str.ofString "range") = none) (m_int : mg (PySem.Str.ofString "int") = none) : BodyX P w T mg base 1 [(PySem.Str.ofString "_law_source_here"), (PySem.Str.ofString "_law_count"), (PySem.Str.ofString "_law_letters"), (PySem.Str.ofString "_law_ahead"), (PySem.Str.ofString "_law_behind"), (PySem.Str.ofString "_law_uneven"), (PySem.Str.ofString "_law_first"), (PySem.Str.ofString "_law_fill"), (PySem.Str.ofString "_law_k")] (PySem.Str.ofString "_law_names") st_law_names f den_law_names := by
  intro cdv A outer s H E hr
  exact (pssx_cons (psx_set 2 sc_law_names.nd px_str)
    (pssx_cons (psx_set 3 sc_law_names.nd (pxg_call fits_body h_law_draw (hr.mono (j := 1) (by decide)) (cb_plain (pax_cons (px_var 0) (pax_cons px_int pax_nil)))))
    (pssx_cons (psx_set 4 sc_law_names.nd (pxg_call fits_body h_law_draw (hr.mono (j := 1) (by decide)) (cb_plain (pax_cons (px_var 0) (pax_cons px_int pax_nil)))))
    (pssx_cons (psx_set 5 sc_law_names.nd (pxg_call fits_body h_law_draw (hr.mono (j := 1) (by decide)) (cb_plain (pax_cons (px_var 0) (pax_cons px_int pax_nil)))))
    (pssx_cons (psx_set 6 sc_law_names.nd (pxg_call fits_body h_law_draw (hr.mono (j := 1) (by decide)) (cb_plain (pax_cons (px_var 0) (pax_cons px_int pax_nil)))))
    (pssx_cons (psx_set 7 sc_law_names.nd (px_ix ⟨rfl, hT.1.symm, hT.2.symm⟩ (u65 hr) (px_var 2) (pxg_call fits_body h_law_draw (hr.mono (j := 1) (by decide)) (cb_plain (pax_cons (px_var 0) (pax_cons px_int pax_nil))))))
    (pssx_one (psx_ret (px_lc true (own := [((PySem.Str.ofString "_law_k"), 8)]) rfl sc_law_names.nd (pix_rng1 rfl m_range (px_var 1)) (ok := (show BlkOk [(PySem.Str.ofString "_law_source_here"), (PySem.Str.ofString "_law_count"), (PySem.Str.ofString "_law_letters"), (PySem.Str.ofString "_law_ahead"), (PySem.Str.ofString "_law_behind"), (PySem.Str.ofString "_law_uneven"), (PySem.Str.ofString "_law_first"), (PySem.Str.ofString "_law_fill"), (PySem.Str.ofString "_law_k")] (defScope st_law_names) _ [((PySem.Str.ofString "_law_k"), 8)] from ⟨rfl, by decide +kernel, by decide +kernel, by decide +kernel, by decide +kernel⟩)) (by decide) (fun _ _ _ _ _ => (pgx_name 8 sc_law_names.nd)) (fun _ _ _ _ _ => ptsx_nil) (fun _ _ _ _ _ => (px_op (ox_add rfl) (px_op (ox_add rfl) (px_op (ox_mul) (px_var 7) (px_var 3)) (px_ix ⟨rfl, hT.1.symm, hT.2.symm⟩ (u65 hr) (px_var 2) (px_op (ox_mod) (px_callTy (cx_int) m_int (pax_cons (px_op (ox_add rfl) (px_var 6) (px_var 8)) pax_nil)) px_int))) (px_op (ox_mul) (px_var 7) (px_op (ox_add rfl) (px_var 4) (px_op (ox_mul) (px_var 5) (px_op (ox_mod) (px_callTy (cx_int) m_int (pax_cons (px_var 8) pax_nil)) px_int)))))))))))))))
abbrev st_law_cut : Stmt := top 7
theorem sc_law_cut : FnScope [(PySem.Str.ofString "_law_source_here"), (PySem.Str.ofString "_law_row"), (PySem.Str.ofString "_law_groups"), (PySem.Str.ofString "_law_name")] [(PySem.Str.ofString "_law_source_here"), (PySem.Str.ofString "_law_row")] (defScope st_law_cut) := ⟨rfl, rfl, rfl, by decide +kernel, rfl, by decide +kernel, by decide +kernel⟩
theorem bx_law_cut {P : Program} {w : World} {T : Tb} {mg : Str → Option Value} {base : Heap} {f : Addr} (hT : TW P w T) (m_len : mg (PySem.Str.ofString "len") = none) (h_law_draw : FnG P w T mg base 1 (PySem.Str.ofString "_law_draw") G_law_draw) : BodyX P w T mg base 1 [(PySem.Str.ofString "_law_source_here"), (PySem.Str.ofString "_law_row"), (PySem.Str.ofString "_law_groups"), (PySem.Str.ofString "_law_name")] (PySem.Str.ofString "_law_cut") st_law_cut f den_law_cut := by
  intro cdv A outer s H E hr
  exact (pssx_cons (psx_set 2 sc_law_cut.nd (px_lst pax_nil))
    (pssx_cons (psx_for false [3] own_body rfl (pix_seq fits_body (px_var 1)) (pgx_name 3 sc_law_cut.nd) (pssx_one (psx_if (ptx_bool (pwx_or (ptx_cmp (ox_eq rfl hr.units) (px_callB (cx_len ⟨rfl, hT.1.symm, hT.2.symm⟩) m_len (pax_cons (px_var 2) pax_nil)) px_int) (pwx_or1 (ptx_cmp (ox_eq rfl hr.units) (pxg_call fits_body h_law_draw (hr.mono (j := 1) (by decide)) (cb_plain (pax_cons (px_var 0) (pax_cons px_int pax_nil)))) px_int)))) (pssx_one (psx_expr (px_app (px_var 2) (px_lst (pax_cons (px_var 3) pax_nil))))) (pssx_one (psx_expr (px_app (px_ix ⟨rfl, hT.1.symm, hT.2.symm⟩ (u65 hr) (px_var 2) (px_op (ox_sub) (px_callB (cx_len ⟨rfl, hT.1.symm, hT.2.symm⟩) m_len (pax_cons (px_var 2) pax_nil)) px_int)) (px_var 3)))))))
    (pssx_one (psx_ret (px_var 2)))))
abbrev st_Plan_d_initd_ : Stmt := inClass (top 2) 0
theorem sc_Plan_d_initd_ : FnScope [(PySem.Str.ofString "self"), (PySem.Str.ofString "groups"), (PySem.Str.ofString "group")] [(PySem.Str.ofString "self"), (PySem.Str.ofString "groups")] (defScope st_Plan_d_initd_) := ⟨rfl, rfl, rfl, by decide +kernel, rfl, by decide +kernel, by decide +kernel⟩
theorem bx_Plan_d_initd_ {P : Program} {w : World} {T : Tb} {mg : Str → Option Value} {base : Heap} {f : Addr} (hT : TW P w T) (m_len : mg (PySem.Str.ofString "len") = none) (m_tuple : mg (PySem.Str.ofString "tuple") = none) (na_0_0 : NaG T 0 0 (PySem.Str.ofString "groups")) : BodyX P w T mg base 0 [(PySem.Str.ofString "self"), (PySem.Str.ofString "groups"), (PySem.Str.ofString "group")] (PySem.Str.ofString "Plan.__init__") st_Plan_d_initd_ f den_Plan_d_initd_ := by
  intro cdv A outer s H E hr
  exact (pssx_one (psxg_fld 0 0 fits_body na_0_0 (px_var 0) (px_lc true (own := [((PySem.Str.ofString "group"), 2)]) rfl sc_Plan_d_initd_.nd (pix_seq fits_body (px_var 1)) (ok := (show BlkOk [(PySem.Str.ofString "self"), (PySem.Str.ofString "groups"), (PySem.Str.ofString "group")] (defScope st_Plan_d_initd_) _ [((PySem.Str.ofString "group"), 2)] from ⟨rfl, by decide +kernel, by decide +kernel, by decide +kernel, by decide +kernel⟩)) (by decide) (fun _ _ _ _ _ => (pgx_name 2 sc_Plan_d_initd_.nd)) (fun _ _ _ _ _ => (ptsx_one (ptx_cmp (ox_gt) (px_callB (cx_len ⟨rfl, hT.1.symm, hT.2.symm⟩) m_len (pax_cons (px_var 2) pax_nil)) px_int))) (fun _ _ _ _ _ => (px_callTy (cx_tuple rfl) m_tuple (pax_cons (px_var 2) pax_nil))))))
abbrev st_Plan_d_addd_ : Stmt := inClass (top 2) 6
theorem sc_Plan_d_addd_ : FnScope [(PySem.Str.ofString "self"), (PySem.Str.ofString "other")] [(PySem.Str.ofString "self"), (PySem.Str.ofString "other")] (defScope st_Plan_d_addd_) := ⟨rfl, rfl, rfl, by decide +kernel, rfl, by decide +kernel, by decide +kernel⟩
theorem bx_Plan_d_addd_ {P : Program} {w : World} {T : Tb} {mg : Str → Option Value} {base : Heap} {f : Addr} (hT : TW P w T) (h_Plan_d_initd_ : ClG P w T mg base 1 0 (PySem.Str.ofString "Plan") G_Plan_d_initd_) (ft_0 : T.FT[0]? = some (PySem.Str.ofString "groups")) : BodyX P w T mg base 2 [(PySem.Str.ofString "self"), (PySem.Str.ofString "other")] (PySem.Str.ofString "Plan.__add__") st_Plan_d_addd_ f den_Plan_d_addd_ := by
  intro cdv A outer s H E hr
  exact (pssx_one (psx_ret (pxg_makeV 0 fits_body h_Plan_d_initd_ (hr.mono (j := 2) (by decide)) (cb_stars (pax_star fits_body (px_fld 0 fits_body ft_0 (px_var 0)) (pax_star fits_body (px_fld 0 fits_body ft_0 (px_var 1)) pax_nil))))))
abbrev st_law_plan : Stmt := top 8
theorem sc_law_plan : FnScope [(PySem.Str.ofString "_law_groups"), (PySem.Str.ofString "_law_plan_here"), (PySem.Str.ofString "_law_group")] [(PySem.Str.ofString "_law_groups")] (defScope st_law_plan) := ⟨rfl, rfl, rfl, by decide +kernel, rfl, by decide +kernel, by decide +kernel⟩
theorem bx_law_plan {P : Program} {w : World} {T : Tb} {mg : Str → Option Value} {base : Heap} {f : Addr} (hT : TW P w T) (h_Plan_d_initd_ : ClG P w T mg base 1 0 (PySem.Str.ofString "Plan") G_Plan_d_initd_) (m_list : mg (PySem.Str.ofString "list") = none) (h_Plan_d_addd_ : MtG P w T mg base 3 0 (PySem.Str.ofString "__add__") G_Plan_d_addd_) (sf_0 : SfG T 0) : BodyX P w T mg base 3 [(PySem.Str.ofString "_law_groups"), (PySem.Str.ofString "_law_plan_here"), (PySem.Str.ofString "_law_group")] (PySem.Str.ofString "_law_plan") st_law_plan f den_law_plan := by
  intro cdv A outer s H E hr
  exact (pssx_cons (psx_set 1 sc_law_plan.nd (pxg_makeV 0 fits_body h_Plan_d_initd_ (hr.mono (j := 2) (by decide)) cb_nil))
    (pssx_cons (psx_for false [2] own_body rfl (pix_seq fits_body (px_var 0)) (pgx_name 2 sc_law_plan.nd) (pssx_one (psx_set 1 sc_law_plan.nd (px_op (oxg_own2 rfl h_Plan_d_addd_ sf_0 (hr.mono (j := 3) (by decide))) (px_var 1) (pxg_makeV 0 fits_body h_Plan_d_initd_ (hr.mono (j := 2) (by decide)) (cb_plain (pax_cons (px_callTy (cx_list rfl) m_list (pax_cons (px_var 2) pax_nil)) pax_nil)))))))
    (pssx_one (psx_ret (px_var 1)))))
abbrev st_Plan_cuts : Stmt := inClass (top 2) 11
theorem sc_Plan_cuts : FnScope [(PySem.Str.ofString "self"), (PySem.Str.ofString "found"), (PySem.Str.ofString "count"), (PySem.Str.ofString "group")] [(PySem.Str.ofString "self")] (defScope st_Plan_cuts) := ⟨rfl, rfl, rfl, by decide +kernel, rfl, by decide +kernel, by decide +kernel⟩
theorem bx_Plan_cuts {P : Program} {w : World} {T : Tb} {mg : Str → Option Value} {base : Heap} {f : Addr} (hT : TW P w T) (ft_0 : T.FT[0]? = some (PySem.Str.ofString "groups")) (m_len : mg (PySem.Str.ofString "len") = none) : BodyX P w T mg base 0 [(PySem.Str.ofString "self"), (PySem.Str.ofString "found"), (PySem.Str.ofString "count"), (PySem.Str.ofString "group")] (PySem.Str.ofString "Plan.cuts") st_Plan_cuts f den_Plan_cuts := by
  intro cdv A outer s H E hr
  exact (pssx_cons (psx_set 1 sc_Plan_cuts.nd (px_lst pax_nil))
    (pssx_cons (psx_set 2 sc_Plan_cuts.nd px_int)
    (pssx_cons (psx_for false [3] own_body rfl (pix_seq fits_body (px_fld 0 fits_body ft_0 (px_var 0))) (pgx_name 3 sc_Plan_cuts.nd) (pssx_cons (psx_aug 2 sc_Plan_cuts.nd (px_callB (cx_len ⟨rfl, hT.1.symm, hT.2.symm⟩) m_len (pax_cons (px_var 3) pax_nil)) ipx_add)
    (pssx_one (psx_expr (px_app (px_var 1) (px_var 2))))))
    (pssx_one (psx_ret (px_var 1))))))
abbrev st_Plan_walks : Stmt := inClass (top 2) 12
theorem sc_Plan_walks : FnScope [(PySem.Str.ofString "self"), (PySem.Str.ofString "group"), (PySem.Str.ofString "name")] [(PySem.Str.ofString "self")] (defScope st_Plan_walks) := ⟨rfl, rfl, rfl, by decide +kernel, rfl, by decide +kernel, by decide +kernel⟩
theorem bx_Plan_walks {P : Program} {w : World} {T : Tb} {mg : Str → Option Value} {base : Heap} {f : Addr} (hT : TW P w T) (ft_0 : T.FT[0]? = some (PySem.Str.ofString "groups")) (m_tuple : mg (PySem.Str.ofString "tuple") = none) : BodyX P w T mg base 0 [(PySem.Str.ofString "self"), (PySem.Str.ofString "group"), (PySem.Str.ofString "name")] (PySem.Str.ofString "Plan.walks") st_Plan_walks f den_Plan_walks := by
  intro cdv A outer s H E hr
  exact (pssx_one (psx_ret (px_callTy (cx_tuple rfl) m_tuple (pax_cons (px_lc2 true (own := [((PySem.Str.ofString "group"), 1), ((PySem.Str.ofString "name"), 2)]) rfl sc_Plan_walks.nd (pix_seq fits_body (px_fld 0 fits_body ft_0 (px_var 0))) (ok := (show BlkOk [(PySem.Str.ofString "self"), (PySem.Str.ofString "group"), (PySem.Str.ofString "name")] (defScope st_Plan_walks) _ [((PySem.Str.ofString "group"), 1), ((PySem.Str.ofString "name"), 2)] from ⟨rfl, by decide +kernel, by decide +kernel, by decide +kernel, by decide +kernel⟩)) (vs1 := [2]) (by decide) (by decide) (by decide) (fun _ _ _ _ _ => (pgx_name 1 sc_Plan_walks.nd)) (fun _ _ _ _ _ => ptsx_nil) (fun _ _ _ _ _ => (pix_seq (fits_blk rfl) (px_var 1))) (fun _ _ _ _ _ => (pgx_name 2 sc_Plan_walks.nd)) (fun _ _ _ _ _ => ptsx_nil) (fun _ _ _ _ _ => (px_var 2))) pax_nil))))
abbrev st_Plan_d_led_ : Stmt := inClass (top 2) 10
theorem sc_Plan_d_led_ : FnScope [(PySem.Str.ofString "self"), (PySem.Str.ofString "other"), (PySem.Str.ofString "mine"), (PySem.Str.ofString "cut")] [(PySem.Str.ofString "self"), (PySem.Str.ofString "other")] (defScope st_Plan_d_led_) := ⟨rfl, rfl, rfl, by decide +kernel, rfl, by decide +kernel, by decide +kernel⟩
theorem bx_Plan_d_led_ {P : Program} {w : World} {T : Tb} {mg : Str → Option Value} {base : Heap} {f : Addr} (hT : TW P w T) (h_Plan_cuts : MtG P w T mg base 1 0 (PySem.Str.ofString "cuts") G_Plan_cuts) (nf_cuts : (PySem.Str.ofString "cuts") ∉ T.FT) (h_Plan_walks : PrG P w T mg base 1 0 (PySem.Str.ofString "walks") G_Plan_walks) (m_all : mg (PySem.Str.ofString "all") = none) : BodyX P w T mg base 2 [(PySem.Str.ofString "self"), (PySem.Str.ofString "other"), (PySem.Str.ofString "mine"), (PySem.Str.ofString "cut")] (PySem.Str.ofString "Plan.__le__") st_Plan_d_led_ f den_Plan_d_led_ := by
  intro cdv A outer s H E hr
  exact (pssx_cons (psx_set 2 sc_Plan_d_led_.nd (pxg_meth 0 fits_body h_Plan_cuts nf_cuts (hr.mono (j := 1) (by decide)) (px_var 0) cb_nil))
    (pssx_one (psx_ret (px_and (px_cmp (ox_eq rfl hr.units) (pxg_prop 0 fits_body h_Plan_walks (hr.mono (j := 2) (by decide)) (px_var 0)) (pxg_prop 0 fits_body h_Plan_walks (hr.mono (j := 2) (by decide)) (px_var 1))) (px_one (px_callB (cx_all rfl) m_all (pax_cons (px_lc true (own := [((PySem.Str.ofString "cut"), 3)]) rfl sc_Plan_d_led_.nd (pix_seq fits_body (pxg_meth 0 fits_body h_Plan_cuts nf_cuts (hr.mono (j := 1) (by decide)) (px_var 1) cb_nil)) (ok := (show BlkOk [(PySem.Str.ofString "self"), (PySem.Str.ofString "other"), (PySem.Str.ofString "mine"), (PySem.Str.ofString "cut")] (defScope st_Plan_d_led_) _ [((PySem.Str.ofString "cut"), 3)] from ⟨rfl, by decide +kernel, by decide +kernel, by decide +kernel, by decide +kernel⟩)) (by decide) (fun _ _ _ _ _ => (pgx_name 3 sc_Plan_d_led_.nd)) (fun _ _ _ _ _ => ptsx_nil) (fun _ _ _ _ _ => (px_cmp (ox_in' ⟨rfl, hT.1.symm, hT.2.symm⟩ (u65 hr)) (px_var 3) (px_var 2)))) pax_nil)))))))
abbrev st_law_within : Stmt := top 9
theorem sc_law_within : FnScope [(PySem.Str.ofString "_law_one"), (PySem.Str.ofString "_law_two"), (PySem.Str.ofString "_law_walks"), (PySem.Str.ofString "_law_group"), (PySem.Str.ofString "_law_other"), (PySem.Str.ofString "_law_starts"), (PySem.Str.ofString "_law_limits"), (PySem.Str.ofString "_law_k"), (PySem.Str.ofString "_law_end"), (PySem.Str.ofString "_law_n")] [(PySem.Str.ofString "_law_one"), (PySem.Str.ofString "_law_two")] (defScope st_law_within) := ⟨rfl, rfl, rfl, by decide +kernel, rfl, by decide +kernel, by decide +kernel⟩
theorem bx_law_within {P : Program} {w : World} {T : Tb} {mg : Str → Option Value} {base : Heap} {f : Addr} (hT : TW P w T) (m_len : mg (PySem.Str.ofString "len") = none) (m_range : mg (PySem.Str.ofString "range") = none) (m_sum : mg (PySem.Str.ofString "sum") = none) (m_any : mg (PySem.Str.ofString "any") = none) : BodyX P w T mg base 0 [(PySem.Str.ofString "_law_one"), (PySem.Str.ofString "_law_two"), (PySem.Str.ofString "_law_walks"), (PySem.Str.ofString "_law_group"), (PySem.Str.ofString "_law_other"), (PySem.Str.ofString "_law_starts"), (PySem.Str.ofString "_law_limits"), (PySem.Str.ofString "_law_k"), (PySem.Str.ofString "_law_end"), (PySem.Str.ofString "_law_n")] (PySem.Str.ofString "_law_within") st_law_within f den_law_within := by
  intro cdv A outer s H E hr
  exact (pssx_cons (psx_set 2 sc_law_within.nd (px_lstV pax_nil))
    (pssx_cons (psx_for false [3] own_body rfl (pix_seq fits_body (px_var 0)) (pgx_name 3 sc_law_within.nd) (pssx_one (psx_set 2 sc_law_within.nd (px_op (ox_add rfl) (px_var 2) (px_var 3)))))
    (pssx_cons (psx_set 4 sc_law_within.nd (px_lstV pax_nil))
    (pssx_cons (psx_for false [3] own_body rfl (pix_seq fits_body (px_var 1)) (pgx_name 3 sc_law_within.nd) (pssx_one (psx_set 4 sc_law_within.nd (px_op (ox_add rfl) (px_var 4) (px_var 3)))))
    (pssx_cons (psx_if (ptx_cmp (ox_ne rfl hr.units) (px_var 2) (px_var 4)) (pssx_one (psx_ret px_bl)) pssx_nil)
    (pssx_cons (psx_set 5 sc_law_within.nd (px_lc true (own := [((PySem.Str.ofString "_law_k"), 7)]) rfl sc_law_within.nd (pix_rng1 rfl m_range (px_callB (cx_len ⟨rfl, hT.1.symm, hT.2.symm⟩) m_len (pax_cons (px_var 0) pax_nil))) (ok := (show BlkOk [(PySem.Str.ofString "_law_one"), (PySem.Str.ofString "_law_two"), (PySem.Str.ofString "_law_walks"), (PySem.Str.ofString "_law_group"), (PySem.Str.ofString "_law_other"), (PySem.Str.ofString "_law_starts"), (PySem.Str.ofString "_law_limits"), (PySem.Str.ofString "_law_k"), (PySem.Str.ofString "_law_end"), (PySem.Str.ofString "_law_n")] (defScope st_law_within) _ [((PySem.Str.ofString "_law_k"), 7)] from ⟨rfl, by decide +kernel, by decide +kernel, by decide +kernel, by decide +kernel⟩)) (by decide) (fun _ _ _ _ _ => (pgx_name 7 sc_law_within.nd)) (fun _ _ _ _ _ => ptsx_nil) (fun _ _ _ _ _ => (px_callB (cx_sum rfl) m_sum (pax_cons (px_lc true (own := [((PySem.Str.ofString "_law_group"), 3)]) rfl sc_law_within.nd (pix_seq (fits_blk rfl) (px_slice rfl (px_var 0) pox_none (pox_some (px_var 7)))) (ok := (show BlkOk [(PySem.Str.ofString "_law_one"), (PySem.Str.ofString "_law_two"), (PySem.Str.ofString "_law_walks"), (PySem.Str.ofString "_law_group"), (PySem.Str.ofString "_law_other"), (PySem.Str.ofString "_law_starts"), (PySem.Str.ofString "_law_limits"), (PySem.Str.ofString "_law_k"), (PySem.Str.ofString "_law_end"), (PySem.Str.ofString "_law_n")] (relS _ (defScope st_law_within)) _ [((PySem.Str.ofString "_law_group"), 3)] from ⟨rfl, by decide +kernel, by decide +kernel, by decide +kernel, by decide +kernel⟩)) (by decide) (fun _ _ _ _ _ => (pgx_name 3 sc_law_within.nd)) (fun _ _ _ _ _ => ptsx_nil) (fun _ _ _ _ _ => (px_callB (cx_len ⟨rfl, hT.1.symm, hT.2.symm⟩) m_len (pax_cons (px_var 3) pax_nil)))) pax_nil)))))
    (pssx_cons (psx_set 6 sc_law_within.nd (px_lc true (own := [((PySem.Str.ofString "_law_k"), 7)]) rfl sc_law_within.nd (pix_rng1 rfl m_range (px_op (ox_add rfl) (px_callB (cx_len ⟨rfl, hT.1.symm, hT.2.symm⟩) m_len (pax_cons (px_var 1) pax_nil)) px_int)) (ok := (show BlkOk [(PySem.Str.ofString "_law_one"), (PySem.Str.ofString "_law_two"), (PySem.Str.ofString "_law_walks"), (PySem.Str.ofString "_law_group"), (PySem.Str.ofString "_law_other"), (PySem.Str.ofString "_law_starts"), (PySem.Str.ofString "_law_limits"), (PySem.Str.ofString "_law_k"), (PySem.Str.ofString "_law_end"), (PySem.Str.ofString "_law_n")] (defScope st_law_within) _ [((PySem.Str.ofString "_law_k"), 7)] from ⟨rfl, by decide +kernel, by decide +kernel, by decide +kernel, by decide +kernel⟩)) (by decide) (fun _ _ _ _ _ => (pgx_name 7 sc_law_within.nd)) (fun _ _ _ _ _ => ptsx_nil) (fun _ _ _ _ _ => (px_callB (cx_sum rfl) m_sum (pax_cons (px_lc true (own := [((PySem.Str.ofString "_law_group"), 3)]) rfl sc_law_within.nd (pix_seq (fits_blk rfl) (px_slice rfl (px_var 1) pox_none (pox_some (px_var 7)))) (ok := (show BlkOk [(PySem.Str.ofString "_law_one"), (PySem.Str.ofString "_law_two"), (PySem.Str.ofString "_law_walks"), (PySem.Str.ofString "_law_group"), (PySem.Str.ofString "_law_other"), (PySem.Str.ofString "_law_starts"), (PySem.Str.ofString "_law_limits"), (PySem.Str.ofString "_law_k"), (PySem.Str.ofString "_law_end"), (PySem.Str.ofString "_law_n")] (relS _ (defScope st_law_within)) _ [((PySem.Str.ofString "_law_group"), 3)] from ⟨rfl, by decide +kernel, by decide +kernel, by decide +kernel, by decide +kernel⟩)) (by decide) (fun _ _ _ _ _ => (pgx_name 3 sc_law_within.nd)) (fun _ _ _ _ _ => ptsx_nil) (fun _ _ _ _ _ => (px_callB (cx_len ⟨rfl, hT.1.symm, hT.2.symm⟩) m_len (pax_cons (px_var 3) pax_nil)))) pax_nil)))))
    (pssx_cons (psx_for false [7, 8] own_body rfl (pix_rng1 rfl m_range (px_callB (cx_len ⟨rfl, hT.1.symm, hT.2.symm⟩) m_len (pax_cons (px_var 0) pax_nil))) (pgx_name 7 sc_law_within.nd) (pssx_cons (psx_set 8 sc_law_within.nd (px_op (ox_add rfl) (px_ix ⟨rfl, hT.1.symm, hT.2.symm⟩ (u65 hr) (px_var 5) (px_var 7)) (px_callB (cx_len ⟨rfl, hT.1.symm, hT.2.symm⟩) m_len (pax_cons (px_ix ⟨rfl, hT.1.symm, hT.2.symm⟩ (u65 hr) (px_var 0) (px_var 7)) pax_nil))))
    (pssx_one (psx_if (ptx_not (ptx_val (px_callB (cx_any rfl) m_any (pax_cons (px_lc true (own := [((PySem.Str.ofString "_law_n"), 9)]) rfl sc_law_within.nd (pix_rng1 rfl m_range (px_callB (cx_len ⟨rfl, hT.1.symm, hT.2.symm⟩) m_len (pax_cons (px_var 1) pax_nil))) (ok := (show BlkOk [(PySem.Str.ofString "_law_one"), (PySem.Str.ofString "_law_two"), (PySem.Str.ofString "_law_walks"), (PySem.Str.ofString "_law_group"), (PySem.Str.ofString "_law_other"), (PySem.Str.ofString "_law_starts"), (PySem.Str.ofString "_law_limits"), (PySem.Str.ofString "_law_k"), (PySem.Str.ofString "_law_end"), (PySem.Str.ofString "_law_n")] (defScope st_law_within) _ [((PySem.Str.ofString "_law_n"), 9)] from ⟨rfl, by decide +kernel, by decide +kernel, by decide +kernel, by decide +kernel⟩)) (by decide) (fun _ _ _ _ _ => (pgx_name 9 sc_law_within.nd)) (fun _ _ _ _ _ => ptsx_nil) (fun _ _ _ _ _ => (px_and (px_cmp (ox_le) (px_ix ⟨rfl, hT.1.symm, hT.2.symm⟩ (u65 hr) (px_var 6) (px_var 9)) (px_ix ⟨rfl, hT.1.symm, hT.2.symm⟩ (u65 hr) (px_var 5) (px_var 7))) (px_one (px_cmp (ox_le) (px_var 8) (px_ix ⟨rfl, hT.1.symm, hT.2.symm⟩ (u65 hr) (px_var 6) (px_op (ox_add rfl) (px_var 9) px_int))))))) pax_nil)))) (pssx_one (psx_ret px_bl)) pssx_nil))))
    (pssx_one (psx_ret px_bl))))))))))
abbrev st_Plan_d_eqd_ : Stmt := inClass (top 2) 4
theorem sc_Plan_d_eqd_ : FnScope [(PySem.Str.ofString "self"), (PySem.Str.ofString "other")] [(PySem.Str.ofString "self"), (PySem.Str.ofString "other")] (defScope st_Plan_d_eqd_) := ⟨rfl, rfl, rfl, by decide +kernel, rfl, by decide +kernel, by decide +kernel⟩
theorem bx_Plan_d_eqd_ {P : Program} {w : World} {T : Tb} {mg : Str → Option Value} {base : Heap} {f : Addr} (hT : TW P w T) (is_0 : IsG T mg 0 (PySem.Str.ofString "Plan") true) (m_isinstance : mg (PySem.Str.ofString "isinstance") = none) (ft_0 : T.FT[0]? = some (PySem.Str.ofString "groups")) : BodyX P w T mg base 0 [(PySem.Str.ofString "self"), (PySem.Str.ofString "other")] (PySem.Str.ofString "Plan.__eq__") st_Plan_d_eqd_ f den_Plan_d_eqd_ := by
  intro cdv A outer s H E hr
  exact (pssx_one (psx_ret (px_and (pxg_isC fits_body is_0 m_isinstance (px_var 1)) (px_one (px_cmp (ox_eq rfl hr.units) (px_fld 0 fits_body ft_0 (px_var 0)) (px_fld 0 fits_body ft_0 (px_var 1)))))))
abbrev st_law : Stmt := top 10
theorem sc_law : FnScope [(PySem.Str.ofString "_law_script"), (PySem.Str.ofString "_law_source_here"), (PySem.Str.ofString "_law_names_here"), (PySem.Str.ofString "_law_row"), (PySem.Str.ofString "_law_groups"), (PySem.Str.ofString "_law_change"), (PySem.Str.ofString "_law_plans"), (PySem.Str.ofString "_law_k"), (PySem.Str.ofString "_law_apart"), (PySem.Str.ofString "_law_whole"), (PySem.Str.ofString "_law_at"), (PySem.Str.ofString "_law_n"), (PySem.Str.ofString "_law_part"), (PySem.Str.ofString "_law_least"), (PySem.Str.ofString "_law_m"), (PySem.Str.ofString "_law_name")] [(PySem.Str.ofString "_law_script")] (defScope st_law) := ⟨rfl, rfl, rfl, by decide +kernel, rfl, by decide +kernel, by decide +kernel⟩
theorem bx_law {P : Program} {w : World} {T : Tb} {mg : Str → Option Value} {base : Heap} {f : Addr} (hT : TW P w T) (h_law_source : FnG P w T mg base 1 (PySem.Str.ofString "_law_source") G_law_source) (h_law_names : FnG P w T mg base 2 (PySem.Str.ofString "_law_names") G_law_names) (h_law_draw : FnG P w T mg base 1 (PySem.Str.ofString "_law_draw") G_law_draw) (m_range : mg (PySem.Str.ofString "range") = none) (h_law_cut : FnG P w T mg base 2 (PySem.Str.ofString "_law_cut") G_law_cut) (m_len : mg (PySem.Str.ofString "len") = none) (h_law_plan : FnG P w T mg base 4 (PySem.Str.ofString "_law_plan") G_law_plan) (h_Plan_d_led_ : MtG P w T mg base 3 0 (PySem.Str.ofString "__le__") G_Plan_d_led_) (nf_0 : NfG T 0) (m_isinstance : mg (PySem.Str.ofString "isinstance") = none) (m_bool : mg (PySem.Str.ofString "bool") = none) (h_law_within : FnG P w T mg base 1 (PySem.Str.ofString "_law_within") G_law_within) (h_Plan_d_eqd_ : MtG P w T mg base 1 0 (PySem.Str.ofString "__eq__") G_Plan_d_eqd_) : BodyX P w T mg base 4 [(PySem.Str.ofString "_law_script"), (PySem.Str.ofString "_law_source_here"), (PySem.Str.ofString "_law_names_here"), (PySem.Str.ofString "_law_row"), (PySem.Str.ofString "_law_groups"), (PySem.Str.ofString "_law_change"), (PySem.Str.ofString "_law_plans"), (PySem.Str.ofString "_law_k"), (PySem.Str.ofString "_law_apart"), (PySem.Str.ofString "_law_whole"), (PySem.Str.ofString "_law_at"), (PySem.Str.ofString "_law_n"), (PySem.Str.ofString "_law_part"), (PySem.Str.ofString "_law_least"), (PySem.Str.ofString "_law_m"), (PySem.Str.ofString "_law_name")] (PySem.Str.ofString "law") st_law f den_law := by
  intro cdv A outer s H E hr
  exact (pssx_cons (psx_set 1 sc_law.nd (pxg_call fits_body h_law_source (hr.mono (j := 1) (by decide)) (cb_plain (pax_cons (px_var 0) pax_nil))))
    (pssx_cons (psx_set 2 sc_law.nd (pxg_call fits_body h_law_names (hr.mono (j := 2) (by decide)) (cb_plain (pax_cons (px_var 1) (pax_cons px_int pax_nil)))))
    (pssx_cons (psx_setLc true 3 (own := [((PySem.Str.ofString "_law_n"), 11)]) rfl sc_law.nd (pix_rng1 rfl m_range (pxg_call fits_body h_law_draw (hr.mono (j := 1) (by decide)) (cb_plain (pax_cons (px_var 1) (pax_cons px_int pax_nil))))) (ok := (show BlkOk [(PySem.Str.ofString "_law_script"), (PySem.Str.ofString "_law_source_here"), (PySem.Str.ofString "_law_names_here"), (PySem.Str.ofString "_law_row"), (PySem.Str.ofString "_law_groups"), (PySem.Str.ofString "_law_change"), (PySem.Str.ofString "_law_plans"), (PySem.Str.ofString "_law_k"), (PySem.Str.ofString "_law_apart"), (PySem.Str.ofString "_law_whole"), (PySem.Str.ofString "_law_at"), (PySem.Str.ofString "_law_n"), (PySem.Str.ofString "_law_part"), (PySem.Str.ofString "_law_least"), (PySem.Str.ofString "_law_m"), (PySem.Str.ofString "_law_name")] (defScope st_law) _ [((PySem.Str.ofString "_law_n"), 11)] from ⟨rfl, by decide +kernel, by decide +kernel, by decide +kernel, by decide +kernel⟩)) (by decide) (fun _ _ _ _ _ => (pgx_name 11 sc_law.nd)) (fun _ _ _ _ _ => ptsx_nil) (fun _ _ _ _ _ => (px_ix ⟨rfl, hT.1.symm, hT.2.symm⟩ (u65 hr) (px_var 2) (pxg_call (fits_blk rfl) h_law_draw (hr.mono (j := 1) (by decide)) (cb_plain (pax_cons (px_var 1) (pax_cons px_int pax_nil)))))))
    (pssx_cons (psx_set 4 sc_law.nd (px_lst (pax_cons (pxg_call fits_body h_law_cut (hr.mono (j := 2) (by decide)) (cb_plain (pax_cons (px_var 1) (pax_cons (px_var 3) pax_nil)))) (pax_cons (pxg_call fits_body h_law_cut (hr.mono (j := 2) (by decide)) (cb_plain (pax_cons (px_var 1) (pax_cons (px_var 3) pax_nil)))) (pax_cons (pxg_call fits_body h_law_cut (hr.mono (j := 2) (by decide)) (cb_plain (pax_cons (px_var 1) (pax_cons (px_var 3) pax_nil)))) pax_nil)))))
    (pssx_cons (psx_set 5 sc_law.nd (pxg_call fits_body h_law_draw (hr.mono (j := 1) (by decide)) (cb_plain (pax_cons (px_var 1) (pax_cons px_int pax_nil)))))
    (pssx_cons (psx_if (ptx_cmp (ox_eq rfl hr.units) (px_var 5) px_int) (pssx_one (psx_asg (px_op (ox_add rfl) (px_ix ⟨rfl, hT.1.symm, hT.2.symm⟩ (u65 hr) (px_var 4) px_int) (px_lstV (pax_cons (px_lstV (pax_cons (px_ix ⟨rfl, hT.1.symm, hT.2.symm⟩ (u65 hr) (px_var 2) (pxg_call fits_body h_law_draw (hr.mono (j := 1) (by decide)) (cb_plain (pax_cons (px_var 1) (pax_cons px_int pax_nil))))) pax_nil)) pax_nil))) (pgx_sub (W := WN) (px_var 4) px_int (sx_set ⟨rfl, hT.1.symm, hT.2.symm⟩ (u65 hr))))) pssx_nil)
    (pssx_cons (psx_if (ptx_bool (pwx_and (ptx_cmp (ox_eq rfl hr.units) (px_var 5) px_int) (pwx_and1 (ptx_cmp (ox_gt) (px_callB (cx_len ⟨rfl, hT.1.symm, hT.2.symm⟩) m_len (pax_cons (px_var 3) pax_nil)) px_int)))) (pssx_cons (psx_set 10 sc_law.nd (pxg_call fits_body h_law_draw (hr.mono (j := 1) (by decide)) (cb_plain (pax_cons (px_var 1) (pax_cons (px_callB (cx_len ⟨rfl, hT.1.symm, hT.2.symm⟩) m_len (pax_cons (px_var 3) pax_nil)) pax_nil)))))
    (pssx_one (psx_asg (pxg_call fits_body h_law_cut (hr.mono (j := 2) (by decide)) (cb_plain (pax_cons (px_var 1) (pax_cons (px_op (ox_add rfl) (px_op (ox_add rfl) (px_slice rfl (px_var 3) pox_none (pox_some (px_var 10))) (px_lstV (pax_cons (px_ix ⟨rfl, hT.1.symm, hT.2.symm⟩ (u65 hr) (px_var 2) (pxg_call fits_body h_law_draw (hr.mono (j := 1) (by decide)) (cb_plain (pax_cons (px_var 1) (pax_cons px_int pax_nil))))) pax_nil))) (px_slice rfl (px_var 3) (pox_some (px_op (ox_add rfl) (px_var 10) px_int)) pox_none)) pax_nil)))) (pgx_sub (W := WN) (px_var 4) px_int (sx_set ⟨rfl, hT.1.symm, hT.2.symm⟩ (u65 hr)))))) pssx_nil)
    (pssx_cons (psx_setLc true 6 (own := [((PySem.Str.ofString "_law_part"), 12)]) rfl sc_law.nd (pix_seq fits_body (px_var 4)) (ok := (show BlkOk [(PySem.Str.ofString "_law_script"), (PySem.Str.ofString "_law_source_here"), (PySem.Str.ofString "_law_names_here"), (PySem.Str.ofString "_law_row"), (PySem.Str.ofString "_law_groups"), (PySem.Str.ofString "_law_change"), (PySem.Str.ofString "_law_plans"), (PySem.Str.ofString "_law_k"), (PySem.Str.ofString "_law_apart"), (PySem.Str.ofString "_law_whole"), (PySem.Str.ofString "_law_at"), (PySem.Str.ofString "_law_n"), (PySem.Str.ofString "_law_part"), (PySem.Str.ofString "_law_least"), (PySem.Str.ofString "_law_m"), (PySem.Str.ofString "_law_name")] (defScope st_law) _ [((PySem.Str.ofString "_law_part"), 12)] from ⟨rfl, by decide +kernel, by decide +kernel, by decide +kernel, by decide +kernel⟩)) (by decide) (fun _ _ _ _ _ => (pgx_name 12 sc_law.nd)) (fun _ _ _ _ _ => ptsx_nil) (fun _ _ _ _ _ => (pxg_call (fits_blk rfl) h_law_plan (hr.mono (j := 4) (by decide)) (cb_plain (pax_cons (px_var 12) pax_nil)))))
    (pssx_cons (psx_for false [7, 11, 13, 14] own_body rfl (pix_rng1 rfl m_range px_int) (pgx_name 7 sc_law.nd) (pssx_one (psx_for false [11, 13, 14] own_body rfl (pix_rng1 rfl m_range px_int) (pgx_name 11 sc_law.nd) (pssx_cons (psx_set 13 sc_law.nd (px_cmp (oxg_le rfl h_Plan_d_led_ nf_0 (hr.mono (j := 3) (by decide))) (px_ix ⟨rfl, hT.1.symm, hT.2.symm⟩ (u65 hr) (px_var 6) (px_var 7)) (px_ix ⟨rfl, hT.1.symm, hT.2.symm⟩ (u65 hr) (px_var 6) (px_var 11))))
    (pssx_cons (psx_if (ptx_bool (pwx_or (ptx_not (ptx_val (px_isTy m_isinstance m_bool (px_var 13)))) (pwx_or1 (ptx_cmp (ox_ne rfl hr.units) (px_var 13) (pxg_call fits_body h_law_within (hr.mono (j := 1) (by decide)) (cb_plain (pax_cons (px_ix ⟨rfl, hT.1.symm, hT.2.symm⟩ (u65 hr) (px_var 4) (px_var 7)) (pax_cons (px_ix ⟨rfl, hT.1.symm, hT.2.symm⟩ (u65 hr) (px_var 4) (px_var 11)) pax_nil)))))))) (pssx_one (psx_ret px_bl)) pssx_nil)
    (pssx_cons (psx_if (ptx_bool (pwx_and (ptx_val (px_var 13)) (pwx_and (ptx_cmp (oxg_le rfl h_Plan_d_led_ nf_0 (hr.mono (j := 3) (by decide))) (px_ix ⟨rfl, hT.1.symm, hT.2.symm⟩ (u65 hr) (px_var 6) (px_var 11)) (px_ix ⟨rfl, hT.1.symm, hT.2.symm⟩ (u65 hr) (px_var 6) (px_var 7))) (pwx_and1 (ptx_cmp (ox_nis) (px_cmp (oxg_eq rfl h_Plan_d_eqd_ nf_0 (hr.mono (j := 1) (by decide))) (px_ix ⟨rfl, hT.1.symm, hT.2.symm⟩ (u65 hr) (px_var 6) (px_var 7)) (px_ix ⟨rfl, hT.1.symm, hT.2.symm⟩ (u65 hr) (px_var 6) (px_var 11))) px_bl))))) (pssx_one (psx_ret px_bl)) pssx_nil)
    (pssx_one (psx_for false [14] own_body rfl (pix_rng1 rfl m_range px_int) (pgx_name 14 sc_law.nd) (pssx_one (psx_if (ptx_bool (pwx_and (ptx_val (px_var 13)) (pwx_and (ptx_cmp (oxg_le rfl h_Plan_d_led_ nf_0 (hr.mono (j := 3) (by decide))) (px_ix ⟨rfl, hT.1.symm, hT.2.symm⟩ (u65 hr) (px_var 6) (px_var 11)) (px_ix ⟨rfl, hT.1.symm, hT.2.symm⟩ (u65 hr) (px_var 6) (px_var 14))) (pwx_and1 (ptx_cmp (ox_nis) (px_cmp (oxg_le rfl h_Plan_d_led_ nf_0 (hr.mono (j := 3) (by decide))) (px_ix ⟨rfl, hT.1.symm, hT.2.symm⟩ (u65 hr) (px_var 6) (px_var 7)) (px_ix ⟨rfl, hT.1.symm, hT.2.symm⟩ (u65 hr) (px_var 6) (px_var 14))) px_bl))))) (pssx_one (psx_ret px_bl)) pssx_nil))))))))))
    (pssx_cons (psx_set 8 sc_law.nd (pxg_call fits_body h_law_plan (hr.mono (j := 4) (by decide)) (cb_plain (pax_cons (px_lc true (own := [((PySem.Str.ofString "_law_name"), 15)]) rfl sc_law.nd (pix_seq fits_body (px_var 3)) (ok := (show BlkOk [(PySem.Str.ofString "_law_script"), (PySem.Str.ofString "_law_source_here"), (PySem.Str.ofString "_law_names_here"), (PySem.Str.ofString "_law_row"), (PySem.Str.ofString "_law_groups"), (PySem.Str.ofString "_law_change"), (PySem.Str.ofString "_law_plans"), (PySem.Str.ofString "_law_k"), (PySem.Str.ofString "_law_apart"), (PySem.Str.ofString "_law_whole"), (PySem.Str.ofString "_law_at"), (PySem.Str.ofString "_law_n"), (PySem.Str.ofString "_law_part"), (PySem.Str.ofString "_law_least"), (PySem.Str.ofString "_law_m"), (PySem.Str.ofString "_law_name")] (defScope st_law) _ [((PySem.Str.ofString "_law_name"), 15)] from ⟨rfl, by decide +kernel, by decide +kernel, by decide +kernel, by decide +kernel⟩)) (by decide) (fun _ _ _ _ _ => (pgx_name 15 sc_law.nd)) (fun _ _ _ _ _ => ptsx_nil) (fun _ _ _ _ _ => (px_lstV (pax_cons (px_var 15) pax_nil)))) pax_nil))))
    (pssx_cons (psx_set 9 sc_law.nd (pxg_call fits_body h_law_plan (hr.mono (j := 4) (by decide)) (cb_plain (pax_cons (px_lstV (pax_cons (px_var 3) pax_nil)) pax_nil))))
    (pssx_one (psx_ret (px_and (px_cmp (oxg_le rfl h_Plan_d_led_ nf_0 (hr.mono (j := 3) (by decide))) (px_var 8) (px_ix ⟨rfl, hT.1.symm, hT.2.symm⟩ (u65 hr) (px_var 6) px_int)) (px_and (px_cmp (oxg_le rfl h_Plan_d_led_ nf_0 (hr.mono (j := 3) (by decide))) (px_ix ⟨rfl, hT.1.symm, hT.2.symm⟩ (u65 hr) (px_var 6) px_int) (px_var 9)) (px_and (px_cmp (oxg_le rfl h_Plan_d_led_ nf_0 (hr.mono (j := 3) (by decide))) (px_var 8) (px_var 9)) (px_one (px_cmp (ox_eq rfl hr.units) (px_cmp (oxg_le rfl h_Plan_d_led_ nf_0 (hr.mono (j := 3) (by decide))) (px_var 9) (px_var 8)) (px_cmp (ox_lt) (px_callB (cx_len ⟨rfl, hT.1.symm, hT.2.symm⟩) m_len (pax_cons (px_var 3) pax_nil)) px_int)))))))))))))))))))
end K11

set_option Elab.async false
set_option linter.all false
set_option maxRecDepth 100000
set_option maxHeartbeats 4000000
namespace K11
open PySem PySem.Spec PyProof.Rows L2 FV
theorem rlk_lst {lo : Nat} {st : DSto} {lk : Nat → Option D} {n : Nat} {xs : List D} (h : st[n]? = some (.lst xs)) : rlk lo st lk n = (rss lo lk xs).map .lst := by unfold rlk; rw [h]
/-- lists of lists of the store, told by value -/
theorem fzD_lsts {α : Type} {lo n : Nat} {st : DSto} {l : List α} {f : α → Nat} {g : α → List D} (hn : ¬ n < lo) (h : st[n]? = some (.lst (l.map fun a => .ref (f a)))) (hf : ∀ a ∈ l, ¬ f a < lo ∧ st[f a]? = some (.lst (g a)) ∧ Pures (g a)) : fzD lo st (.ref n) = some (.lst (l.map fun a => .lst (g a))) := by
  have e0 : fzD lo st (.ref n) = fzK lo st n := by unfold fzD rs; rw [if_neg hn]
  rw [e0]
  unfold fzK
  rw [rlk_lst h]
  have : ∀ l : List α, (∀ a ∈ l, ¬ f a < lo ∧ st[f a]? = some (.lst (g a)) ∧ Pures (g a)) → rss lo (rlk lo st (rlk lo st (rlk lo st fun _ => none))) (l.map fun a => .ref (f a)) = some (l.map fun a => .lst (g a)) := by
    intro l
    induction l with
    | nil => intro _; rfl
    | cons a l ih =>
      intro hh
      obtain ⟨h1, h2, h3⟩ := hh a List.mem_cons_self
      rw [List.map_cons, rss, ih fun b hb => hh b (List.mem_cons_of_mem _ hb)]
      unfold rs
      rw [if_neg h1, rlk_lst h2]
      simp only [h3 lo _, Option.map_some, Option.bind_some, List.map_cons]
  rw [this l hf]; rfl
/-- between two turns of _law_cut -/
def cutS (s : Src) (r : DSto) (gs : List (List Name)) : DSto := SS s (r ++ (.lst ((List.range gs.length).map fun j => .ref (r.length + 3 + j)) :: gs.map fun g => .lst (g.map Name.d)))
theorem cutS_g {s : Src} {r : DSto} {gs : List (List Name)} : (cutS s r gs)[r.length + 2]? = some (.lst ((List.range gs.length).map fun j => .ref (r.length + 3 + j))) := by
  unfold cutS
  rw [SS_get, List.getElem?_append_right (Nat.le_refl _)]
  simp
theorem cutS_i {s : Src} {r : DSto} {gs : List (List Name)} {j : Nat} (h : j < gs.length) : (cutS s r gs)[r.length + 3 + j]? = some (.lst (gs[j].map Name.d)) := by
  unfold cutS
  rw [show r.length + 3 + j = (r.length + (j + 1)) + 2 by omega, SS_get, List.getElem?_append_right (by omega)]
  rw [show r.length + (j + 1) - r.length = j + 1 by omega]
  simp [h]
theorem cutS_len {s : Src} {r : DSto} {gs : List (List Name)} : (cutS s r gs).length = r.length + 3 + gs.length := by
  unfold cutS; simp; omega
/-- a new group -/
theorem cutS_new {s : Src} {r : DSto} {gs : List (List Name)} {x : Name} : (cutS s r gs ++ [DObj.lst [x.d]]).set (r.length + 2) (.lst ((List.range gs.length).map (fun j => D.ref (r.length + 3 + j)) ++ [.ref (r.length + 3 + gs.length)])) = cutS s r (gs ++ [[x]]) := by
  unfold cutS
  rw [SS_app, SS_set, List.append_assoc, List.set_append_right _ _ (Nat.le_refl _), Nat.sub_self]
  simp [List.range_succ]
theorem draw3 {s : Src} {r : DSto} (gs : List (List Name)) {m : Int} (h0 : 0 < m) (h1 : m < 1073741824) : ∃ (v : Nat) (s' : Src), G_law_draw [.ref 1, .int m] (cutS s r gs) = .ok (.int v) (cutS s' r gs) ∧ (v : Int) < m := draw_ok s _ h0 h1
theorem cut_ok (s : Src) (r : DSto) (row : List Name) (hl : row.length ≤ 1000) : ∃ (gs : List (List Name)) (s' : Src), G_law_cut [.ref 1, lstN row] (SS s r) = .ok (.lst (gs.map lstN)) (SS s' r) ∧ gs.flatten = row ∧ ∀ g ∈ gs, g ≠ [] := by
  have sz := szl
  have hf := forL_inv (c := []) (pop := false) (ws := [3]) (g := gdName 3) (b := dIfS (dOr (dB (dOp eqO (dB' lenO (dCons (dVar 2) dNil)) (dC (.int 0)))) (dB (dOp eqO (dCall G_law_draw (dCons (dVar 0) (dCons (dC (.int 3)) dNil))) (dC (.int 1))))) (dExpr (dApp (dVar 2) (dLst (dCons (dVar 3) dNil)))) (dExpr (dApp (dOp ixO (dVar 2) (dOp subO (dB' lenO (dCons (dVar 2) dNil)) (dC (.int 1)))) (dVar 3)))) Name.d
    (fun p ρ st => ρ = [some (.ref 1), some (lstN row), some (.ref (r.length + 2)), none] ∧ ∃ s gs, st = cutS s r gs ∧ gs.flatten = p ∧ (∀ g ∈ gs, g ≠ []) ∧ gs.length ≤ p.length) row
    [some (.ref 1), some (lstN row), some (.ref (r.length + 2)), none] (cutS s r []) ⟨rfl, s, [], rfl, rfl, by simp, Nat.le_refl _⟩ (fun _ _ _ _ => rfl)
    (by
      rintro p x q ρ st hpq ⟨rfl, s, gs, rfl, h1, h2, h3⟩
      have hp : p.length < 1001 := by
        have := congrArg List.length hpq
        simp at this
        omega
      have hgs : ((List.range gs.length).map fun j => D.ref (r.length + 3 + j)).length < sizeLine := by simp; omega
      -- a new group
      have new : ∀ s : Src, (dExpr (dApp (dVar 2) (dLst (dCons (dVar 3) dNil)))) [some (.ref 1), some (lstN row), some (.ref (r.length + 2)), some x.d] (cutS s r gs) = .nx [some (.ref 1), some (lstN row), some (.ref (r.length + 2)), some x.d] (cutS s r (gs ++ [[x]])) := fun s => by
        have e1 := cutS_g (s := s) (r := r) (gs := gs)
        have e2 : (cutS s r gs ++ [DObj.lst [x.d]])[r.length + 2]? = some (.lst ((List.range gs.length).map fun j => .ref (r.length + 3 + j))) := by
          rw [List.getElem?_append_left (by rw [cutS_len]; omega)]; exact e1
        simp only [dExpr_ap, dApp_ap, dVar_ap, List.getElem?_cons_succ, List.getElem?_cons_zero, DRes.bind_ok, e1, dLst_ap, dCons_ap, dNil_ap, mkLst_1, e2]
        rw [if_pos hgs, cutS_len, cutS_new]
        rfl
      have len0 : lenO [.ref (r.length + 2)] (cutS s r gs) = some (.int gs.length, cutS s r gs) := by
        rw [lenO_ref cutS_g]; simp
      have fin : ∀ s' : Src, ∃ (s'' : Src) (gs' : List (List Name)), cutS s' r (gs ++ [[x]]) = cutS s'' r gs' ∧ gs'.flatten = p ++ [x] ∧ (∀ g ∈ gs', g ≠ []) ∧ gs'.length ≤ (p ++ [x]).length := fun s' =>
        ⟨s', gs ++ [[x]], rfl, by rw [List.flatten_append, h1]; rfl, fun g hg => (List.mem_append.mp hg).elim (h2 g) (fun z => by rw [List.mem_singleton.mp z]; simp), by simp; omega⟩
      by_cases hg : gs.length = 0
      · refine ⟨_, _, ⟨_, _, [some (.ref 1), some (lstN row), some (.ref (r.length + 2)), some x.d], _, rfl, .inl ?_, rfl⟩, rfl, fin s⟩
        simp only [List.set_cons_succ, List.set_cons_zero, dIfS_ap, dOr_ap, dB_ap, dOp_ap, dB'_ap, dCons_ap, dVar_ap, dNil_ap, List.getElem?_cons_succ, List.getElem?_cons_zero, DRes.bind_ok, len0, hg, ofO_some, dC_ap, Int.natCast_zero, eqO_int, beq_self_eq_true, if_true, toS_ok, new s]
      · obtain ⟨v, s', e, hv⟩ := draw3 (s := s) (r := r) gs (m := 3) (by decide) (by decide)
        have ne0 : ((gs.length : Int) == 0) = false := beq_eq_false_iff_ne.mpr (by omega)
        by_cases hv1 : v = 1
        · subst hv1
          refine ⟨_, _, ⟨_, _, [some (.ref 1), some (lstN row), some (.ref (r.length + 2)), some x.d], _, rfl, .inl ?_, rfl⟩, rfl, fin s'⟩
          simp only [List.set_cons_succ, List.set_cons_zero, dIfS_ap, dOr_ap, dB_ap, dOp_ap, dB'_ap, dCons_ap, dVar_ap, dNil_ap, List.getElem?_cons_succ, List.getElem?_cons_zero, DRes.bind_ok, len0, ofO_some, dC_ap, eqO_int, ne0, Bool.false_eq_true, if_false, dCall_ap, e, Int.natCast_one, beq_self_eq_true, if_true, toS_ok, new s']
        · obtain ⟨k, hk⟩ : ∃ k, gs.length = k + 1 := ⟨gs.length - 1, by omega⟩
          have len1 : lenO [.ref (r.length + 2)] (cutS s' r gs) = some (.int gs.length, cutS s' r gs) := by
            rw [lenO_ref cutS_g]; simp
          have hk2 : k < gs.length := by omega
          have ix : ixO (.ref (r.length + 2)) (.int (k : Nat)) (cutS s' r gs) = some (.ref (r.length + 3 + k), cutS s' r gs) := by
            rw [ixO_ref cutS_g, FV.atI_nat]
            simp [hk2]
          have n1 : (((v : Nat) : Int) == 1) = false := beq_eq_false_iff_ne.mpr (by omega)
          have sub : subO (.int (gs.length : Nat)) (.int 1) (cutS s' r gs) = some (.int (k : Nat), cutS s' r gs) := by
            rw [subO_int, hk]; congr 3; omega
          have hit := cutS_i (s := s') (r := r) hk2
          have hle : (gs[k].map Name.d).length < sizeLine := by
            have : gs[k].length ≤ gs.flatten.length := by
              have := pos_succ hk2
              have := pos_mono (gs := gs) (show k + 1 ≤ gs.length by omega)
              rw [pos_all] at this
              omega
            rw [h1] at this
            rw [List.length_map]
            omega
          have hset : (cutS s' r gs).set (r.length + 3 + k) (.lst (gs[k].map Name.d ++ [x.d])) = cutS s' r (gs.set k (gs[k] ++ [x])) := by
            unfold cutS
            rw [show r.length + 3 + k = (r.length + (k + 1)) + 2 by omega, SS_set, List.set_append_right _ _ (by omega), show r.length + (k + 1) - r.length = k + 1 by omega]
            simp [List.map_set]
          refine ⟨_, _, ⟨_, _, [some (.ref 1), some (lstN row), some (.ref (r.length + 2)), some x.d], _, rfl, .inl ?_, rfl⟩, rfl, s', gs.set k (gs[k] ++ [x]), rfl, ?_, ?_, by simp; omega⟩
          · simp only [List.set_cons_succ, List.set_cons_zero, dIfS_ap, dOr_ap, dB_ap, dOp_ap, dB'_ap, dCons_ap, dVar_ap, dNil_ap, List.getElem?_cons_succ, List.getElem?_cons_zero, DRes.bind_ok, len0, ofO_some, dC_ap, eqO_int, ne0, Bool.false_eq_true, if_false, dCall_ap, e, n1, toS_ok, dExpr_ap, dApp_ap, len1, sub, ix, hit, if_pos hle, hset]
          · have e1 : gs = gs.take k ++ [gs[k]] := by
              have := List.take_append_drop k gs
              rw [List.drop_eq_getElem_cons hk2, List.drop_eq_nil_of_le (by omega)] at this
              exact this.symm
            have e2 : gs.set k (gs[k] ++ [x]) = gs.take k ++ [gs[k] ++ [x]] := by
              rw [List.set_eq_take_append_cons_drop, if_pos hk2, List.drop_eq_nil_of_le (by omega)]
            rw [e2, List.flatten_append, ← h1]
            conv => rhs; rw [e1, List.flatten_append]
            simp [-List.flatten_append, List.append_assoc]
          · intro g hg
            rcases List.mem_or_eq_of_mem_set hg with z | z
            · exact h2 g z
            · rw [z]; simp)
  obtain ⟨ρ', st', e, rfl, s', gs, rfl, h1, h2, h3⟩ := hf
  refine ⟨gs, s', ?_, h1, h2⟩
  unfold G_law_cut
  rw [bodyP_ap, bodyF_ap (n := 2) rfl]
  have e1 : den_law_cut (List.map some [D.ref 1, lstN row] ++ List.replicate (4 - [D.ref 1, lstN row].length) none) (SS s r) = .rt (.ref (r.length + 2)) (cutS s' r gs) := by
    simp [den_law_cut]
    have : SS s (r ++ [DObj.lst []]) = cutS s r [] := rfl
    rw [this, e]
    simp
  rw [e1]
  refine popR_ok ?_ SS_pop
  have := fzD_lsts (lo := (SS s r).length) (st := cutS s' r gs) (n := r.length + 2) (l := List.range gs.length) (f := fun j => r.length + 3 + j) (g := fun j => ((gs[j]?).getD []).map Name.d) (by simp) cutS_g
    (fun j hj => ⟨by simp; omega, by rw [cutS_i (List.mem_range.mp hj)]; simp [List.mem_range.mp hj], pures_map (fun _ => pure_str _) _⟩)
  rw [this]
  congr 2
  apply List.ext_getElem?
  intro i
  by_cases hi : i < gs.length
  · simp [hi]
  · simp [List.getElem?_eq_none (Nat.le_of_not_lt hi), hi]
end K11

set_option Elab.async false
set_option linter.all false
set_option maxRecDepth 100000
set_option maxHeartbeats 4000000
namespace K11
open PySem PySem.Spec PyProof.Rows L2 FV
theorem plan0 {st : DSto} : mkObjV 0 G_Plan_d_initd_ [] st = .ok (planD []) st := plan_ok (st := st) [] (by simp)
theorem plan1 {st : DSto} (g : List Name) : mkObjV 0 G_Plan_d_initd_ [lstN g] st = .ok (planD (ne [g])) st := plan_ok (st := st) [(false, g)] (by simp)
/-- a plan of groups -/
theorem lplan_ok {st : DSto} (gs : List (List Name)) (hl : gs.length ≤ 50000) : G_law_plan [.lst (gs.map lstN)] st = .ok (planD (ne gs)) st := by
  have hf := forL_known (c := []) (pop := false) (ws := [2]) (g := gdName 2) (b := dAsg 1 (dOp (own2 0 G_Plan_d_addd_) (dVar 1) (dMakeV 0 G_Plan_d_initd_ (dCons (dB' listO (dCons (dVar 2) dNil)) dNil)))) lstN (fun p => [some (.lst (gs.map lstN)), some (planD (ne p)), none]) (fun _ => st) gs (fun _ _ _ => rfl)
    (by
      intro p x q hpq
      have hp : p.length ≤ 50000 := by
        have := congrArg List.length hpq
        simp at this
        omega
      have hp2 : (ne p).length ≤ p.length := List.length_filter_le ..
      have hx : (ne [x]).length ≤ 1 := List.length_filter_le ..
      refine ⟨_, _, [some (.lst (gs.map lstN)), some (planD (ne p ++ ne [x])), some (lstN x)], _, rfl, .inl ?_, by rw [ne_app]; rfl⟩
      simp [plan1, add_ok (st := st) (a := ne p) (b := ne [x]) (by omega) (ne_of _) (ne_of _)])
  unfold G_law_plan
  rw [bodyF_ap (n := 1) rfl]
  simp [den_law_plan, plan0]
  rw [show planD [] = planD (ne []) from rfl, hf]
  simp
theorem cat_ok {st : DSto} {a b : Option D} {l2 : DEnv} (gs : List (List Name)) (hl : gs.flatten.length ≤ 100000) : forL false [3] [] (gdName 3) (dAsg 2 (dOp addO (dVar 2) (dVar 3))) (gs.map lstN) (a :: b :: some (.lst []) :: none :: l2) st = .nx (a :: b :: some (lstN gs.flatten) :: none :: l2) st := by
  have sz := szl
  refine forL_known (c := []) (pop := false) (ws := [3]) (g := gdName 3) (b := dAsg 2 (dOp addO (dVar 2) (dVar 3))) lstN (fun p => a :: b :: some (lstN p.flatten) :: none :: l2) (fun _ => st) gs (fun _ _ _ => rfl)
    (by
      intro p x q hpq
      have hp : p.flatten.length + x.length ≤ 100000 := by
        have := congrArg (fun l : List (List Name) => l.flatten.length) hpq
        simp only [List.flatten_append, List.flatten_cons, List.length_append] at this
        omega
      have e := addO_lst (st := st) (xs := p.flatten.map Name.d) (ys := x.map Name.d) (by rw [List.length_map, List.length_map]; omega)
      refine ⟨_, _, a :: b :: some (lstN (p ++ [x]).flatten) :: some (lstN x) :: l2, _, rfl, .inl ?_, rfl⟩
      rw [← List.map_append] at e
      simp only [List.flatten_append, List.flatten_cons, List.flatten_nil, List.append_nil]
      simp [e, -List.map_flatten, -List.map_append])
theorem cat_ok4 {st : DSto} {a b c : Option D} {l2 : DEnv} (gs : List (List Name)) (hl : gs.flatten.length ≤ 100000) : forL false [3] [] (gdName 3) (dAsg 4 (dOp addO (dVar 4) (dVar 3))) (gs.map lstN) (a :: b :: c :: none :: some (.lst []) :: l2) st = .nx (a :: b :: c :: none :: some (lstN gs.flatten) :: l2) st := by
  have sz := szl
  refine forL_known (c := []) (pop := false) (ws := [3]) (g := gdName 3) (b := dAsg 4 (dOp addO (dVar 4) (dVar 3))) lstN (fun p => a :: b :: c :: none :: some (lstN p.flatten) :: l2) (fun _ => st) gs (fun _ _ _ => rfl)
    (by
      intro p x q hpq
      have hp : p.flatten.length + x.length ≤ 100000 := by
        have := congrArg (fun l : List (List Name) => l.flatten.length) hpq
        simp only [List.flatten_append, List.flatten_cons, List.length_append] at this
        omega
      have e := addO_lst (st := st) (xs := p.flatten.map Name.d) (ys := x.map Name.d) (by rw [List.length_map, List.length_map]; omega)
      refine ⟨_, _, a :: b :: c :: some (lstN x) :: some (lstN (p ++ [x]).flatten) :: l2, _, rfl, .inl ?_, rfl⟩
      rw [← List.map_append] at e
      simp only [List.flatten_append, List.flatten_cons, List.flatten_nil, List.append_nil]
      simp [e, -List.map_flatten, -List.map_append])
theorem cut_take {xs : List D} {k : Nat} : FV.cutD xs none (some (k : Int)) = xs.take k := by
  unfold FV.cutD
  rw [HT.sIx_none, HT.sIx_nat, Nat.sub_zero, List.drop_zero, List.take_eq_take_iff]
  omega
theorem cut_drop {xs : List D} {k : Nat} : FV.cutD xs (some (k : Int)) none = xs.drop k := by
  unfold FV.cutD
  rw [HT.sIx_none, HT.sIx_nat]
  by_cases h : k ≤ xs.length
  · rw [Nat.min_eq_left h, List.take_of_length_le (by simp)]
  · rw [Nat.min_eq_right (by omega), List.drop_of_length_le (Nat.le_refl _), List.drop_of_length_le (by omega)]
    simp
/-- where the groups start -/
theorem pos_comp {st : DSto} {v : Nat} {ρ : DEnv} (gs : List (List Name)) (n : Nat) (hn : n ≤ 50001) (hl : gs.length ≤ 50000) (hv : ρ[v]? = some (some (.lst (gs.map lstN)))) (h7 : v ≠ 7) (h3 : v ≠ 3) (hr : ρ.length = 10) :
    compL [] [7] (gdName 7) (stepE dYes (dB' sumO (dCons (dLcB true (dISeq (dSl (dVar v) none (some (dVar 7)))) [3] (gdName 3) (stepE dYes (dB' lenO (dCons (dVar 3) dNil)))) dNil))) ρ ((List.range n).map fun k : Nat => D.int (k : Int)) [] st = some ((List.range n).map fun k => .int (pos gs k), st) := by
  have sz := szl
  refine compL_mapE (fun k : Nat => D.int (k : Int)) _ rfl _ (by simp; omega) fun k hk acc ha => ⟨_, rfl, ?_⟩
  have hcut : FV.cutD (gs.map lstN) none (some (k : Int)) = (gs.take k).map lstN := by
    rw [cut_take, List.map_take]
  have hin : ∀ ρ : DEnv, ρ.length = 10 → compL [] [3] (gdName 3) (stepE dYes (dB' lenO (dCons (dVar 3) dNil))) ρ ((gs.take k).map lstN) [] st = some ((gs.take k).map fun g => .int (g.length : Nat), st) := fun ρ hr => by
    refine compL_mapE lstN _ rfl _ (by simp; omega) fun g hg acc ha => ⟨_, rfl, ?_⟩
    simp [hr, ha]
  have hsum : ∀ l : List (List Name), (l.map fun g => (g.length : Int)).sum = (l.flatten.length : Nat) := by
    intro l
    induction l with
    | nil => rfl
    | cons g l ih => simp [ih, -List.length_flatten]
  have e1 := intsD_map (fun g : List Name => (g.length : Int)) (gs.take k)
  have hv' : (ρ.set 7 (some (.int (k : Int))))[v]? = some (some (.lst (gs.map lstN))) := by
    rw [List.getElem?_set_ne (Ne.symm h7), hv]
  simp [hv', hr, hin, e1, hsum, ha, -List.length_flatten, -List.map_take, hcut]
  rfl
theorem bodyF_rt {n N : Nat} {s : DenS} {ds : List D} {st st' : DSto} {d : D} {E : DEnv} (hn : ds.length = n) (hE : E = ds.map some ++ List.replicate (N - ds.length) none) (h : s E st = .rt d st') : bodyF n N s ds st = .ok d st' := by
  rw [bodyF_ap hn, ← hE, h]
theorem at_lsts {l : List (List Name)} {k : Nat} (h : k < l.length) : atI (l.map lstN) (k : Int) = some (lstN l[k]) := by
  rw [FV.atI_nat]; simp [h]
theorem at_pos {f : Nat → Nat} {n k : Nat} (h : k < n) : atI ((List.range n).map fun k => D.int (f k : Nat)) (k : Int) = some (.int (f k : Nat)) := by
  rw [FV.atI_nat]; simp [h]
/-- _law_within -/
theorem within_ok {st : DSto} {a b : List (List Name)} (ha : ∀ g ∈ a, g ≠ []) (hb : ∀ g ∈ b, g ≠ []) (ha1 : a.flatten.length ≤ 50000) (hb1 : b.flatten.length ≤ 50000) (ha2 : a.length ≤ 50000) (hb2 : b.length ≤ 50000) :
    G_law_within [.lst (a.map lstN), .lst (b.map lstN)] st = .ok (.bl (planLe a b)) st := by
  have sz := szl
  unfold G_law_within
  refine bodyF_rt (E := [some (.lst (a.map lstN)), some (.lst (b.map lstN)), none, none, none, none, none, none, none, none]) rfl rfl ?_
  have c1 := cat_ok (st := st) (a := some (D.lst (a.map lstN))) (b := some (.lst (b.map lstN))) (l2 := [none, none, none, none, none, none]) a (by omega)
  have c2 := cat_ok4 (st := st) (a := some (D.lst (a.map lstN))) (b := some (.lst (b.map lstN))) (c := some (lstN a.flatten)) (l2 := [none, none, none, none, none]) b (by omega)
  have e0 : neO (lstN a.flatten) (lstN b.flatten) st = some (.bl (!decide (a.flatten = b.flatten)), st) := by
    rw [neO_eqd (eqd_lst (strs_eqd _)) (eqd_lst (strs_eqd _))]
    simp only [D.lst.injEq, strs_inj]
  cases hne : decide (a.flatten = b.flatten) with
  | false =>
    simp [den_law_within, c1, c2, e0, planLe, hne, -List.map_flatten, -List.length_flatten]
  | true =>
    have hne' := of_decide_eq_true hne
    have p1 := pos_comp (st := st) (v := 0) (ρ := [some (.lst (a.map lstN)), some (.lst (b.map lstN)), some (lstN a.flatten), none, some (lstN b.flatten), none, none, none, none, none]) a a.length (by omega) (by omega) rfl (by decide) (by decide) rfl
    have p2 := pos_comp (st := st) (v := 1) (ρ := [some (.lst (a.map lstN)), some (.lst (b.map lstN)), some (lstN a.flatten), none, some (lstN b.flatten), some (.lst ((List.range a.length).map fun k => .int (pos a k))), none, none, none, none]) b (b.length + 1) (by omega) (by omega) rfl (by decide) (by decide) rfl
    have r1 := rngO_0 (n := a.length) (st := st) (by omega)
    have r2 : rngO (.int 0) (.int ((b.length : Int) + 1)) st = .ok ((List.range (b.length + 1)).map fun k : Nat => D.int (k : Int), []) st := rngO_0 (n := b.length + 1) (st := st) (by omega)
    have r3 := rngO_0 (n := b.length) (st := st) (by omega)
    let W : Nat → Bool := fun i => (List.range b.length).any fun j => decide (pos b j ≤ pos a i) && decide (pos a (i + 1) ≤ pos b (j + 1))
    have hW : planLe a b = true ↔ ∀ i < a.length, W i = true := by
      rw [planLe_iff, and_iff_right hne', within_iff ha hb hne']
      refine forall_congr' fun i => imp_congr Iff.rfl ?_
      simp [W]
    have hl := forL_run (c := []) (pop := false) (ws := [7, 8]) (g := gdName 7) (b := (dSeq (dAsg 8 (dOp addO (dOp ixO (dVar 5) (dVar 7)) (dB' lenO (dCons (dOp ixO (dVar 0) (dVar 7)) dNil))))
    (dIfS (dNot (dB (dB' anyO (dCons (dLcB true (dIRng1 (dB' lenO (dCons (dVar 1) dNil))) [9] (gdName 9) (stepE dYes (dAndV (dOp leO (dOp ixO (dVar 6) (dVar 9)) (dOp ixO (dVar 5) (dVar 7))) (dOp leO (dVar 8) (dOp ixO (dVar 6) (dOp addO (dVar 9) (dC (.int 1)))))))) dNil)))) (dRet (dC (.bl false))) dSkip)))
      (fun k : Nat => D.int (k : Int)) (fun p ρ st' => ρ = [some (.lst (a.map lstN)), some (.lst (b.map lstN)), some (lstN a.flatten), none, some (lstN b.flatten), some (.lst ((List.range a.length).map fun k => .int (pos a k))), some (.lst ((List.range (b.length + 1)).map fun k => .int (pos b k))), none, none, none] ∧ st' = st ∧ ∀ i ∈ p, W i = true)
      (fun r => r = .rt (.bl false) st ∧ planLe a b = false) (List.range a.length) [] [some (.lst (a.map lstN)), some (.lst (b.map lstN)), some (lstN a.flatten), none, some (lstN b.flatten), some (.lst ((List.range a.length).map fun k => .int (pos a k))), some (.lst ((List.range (b.length + 1)).map fun k => .int (pos b k))), none, none, none] st
      ⟨rfl, rfl, by simp⟩ (fun _ _ _ _ => rfl) (by
        rintro p i q ρ st' hpq ⟨rfl, rfl, hp⟩
        have hi : i < a.length := List.mem_range.mp (by rw [← List.nil_append (List.range _), hpq]; simp)
        have a1 := at_pos (f := pos a) hi
        have a2 := at_lsts hi
        have hend : ((pos a i : Nat) : Int) + (((a[i]).length : Nat) : Int) = ((pos a (i + 1) : Nat) : Int) := by rw [pos_succ hi]; simp
        have hc : compL [] [9] (gdName 9) (stepE dYes (dAndV (dOp leO (dOp ixO (dVar 6) (dVar 9)) (dOp ixO (dVar 5) (dVar 7))) (dOp leO (dVar 8) (dOp ixO (dVar 6) (dOp addO (dVar 9) (dC (.int 1))))))) [some (.lst (a.map lstN)), some (.lst (b.map lstN)), some (lstN a.flatten), none, some (lstN b.flatten), some (.lst ((List.range a.length).map fun k => .int (pos a k))), some (.lst ((List.range (b.length + 1)).map fun k => .int (pos b k))), some (.int (i : Int)), some (.int ((pos a (i + 1) : Nat) : Int)), none] ((List.range b.length).map fun k : Nat => D.int (k : Int)) [] st' =
            some ((List.range b.length).map fun j => .bl (decide (pos b j ≤ pos a i) && decide (pos a (i + 1) ≤ pos b (j + 1))), st') := by
          refine compL_mapE (fun k : Nat => D.int (k : Int)) _ rfl _ (by simp; omega) fun j hj acc hac => ⟨_, rfl, ?_⟩
          have hj := List.mem_range.mp hj
          have b1 := at_pos (f := pos b) (n := b.length + 1) (k := j) (by omega)
          have b2 := at_pos (f := pos b) (n := b.length + 1) (k := j + 1) (by omega)
          rw [Int.natCast_add, Int.natCast_one] at b2
          by_cases q : pos b j ≤ pos a i
          · simp [a1, b1, b2, q, hac, ofR, -List.map_flatten, -List.length_flatten]
          · simp [a1, b1, b2, q, hac, ofR, -List.map_flatten, -List.length_flatten]
        have hb := blsD_map (fun j => decide (pos b j ≤ pos a i) && decide (pos a (i + 1) ≤ pos b (j + 1))) (List.range b.length)
        have hany : ((List.range b.length).map fun j => decide (pos b j ≤ pos a i) && decide (pos a (i + 1) ≤ pos b (j + 1))).any id = W i := by simp [W, List.any_map, Function.comp_def]
        cases hw : W i with
        | true =>
          refine .inl ⟨_, _, ⟨_, _, [some (.lst (a.map lstN)), some (.lst (b.map lstN)), some (lstN a.flatten), none, some (lstN b.flatten), some (.lst ((List.range a.length).map fun k => .int (pos a k))), some (.lst ((List.range (b.length + 1)).map fun k => .int (pos b k))), some (.int (i : Int)), some (.int ((pos a (i + 1) : Nat) : Int)), none], _, rfl, .inl ?_, rfl⟩, rfl, rfl, ?_⟩
          · simp [a1, a2, hend, r3, hc, hb, hany, hw, -List.map_flatten, -List.length_flatten, -List.any_map]
          · intro j hj
            rcases List.mem_append.mp hj with h | h
            · exact hp j h
            · rw [List.mem_singleton.mp h]; exact hw
        | false =>
          refine .inr ⟨_, ⟨_, _, rfl, ?_, .inl ⟨_, _, rfl⟩⟩, rfl, ?_⟩
          · simp [a1, a2, hend, r3, hc, hb, hany, hw, -List.map_flatten, -List.length_flatten, -List.any_map]
          · cases h : planLe a b with
            | false => rfl
            | true => rw [hW.mp h i hi] at hw; cases hw)
    simp [den_law_within, c1, c2, e0, hne, r1, r2, p1, p2, -List.map_flatten, -List.length_flatten]
    rcases hl with ⟨ρ', st', e, rfl, rfl, h⟩ | ⟨e, h⟩
    · rw [e]
      have : planLe a b = true := hW.mpr fun i hi => h i (List.mem_append_right _ (List.mem_range.mpr hi))
      simp [this]
    · rw [e, h]; rfl
end K11

set_option Elab.async false
set_option linter.all false
set_option maxRecDepth 100000
set_option maxHeartbeats 4000000
namespace K11
open PySem PySem.Spec PyProof.Rows L2 FV
def s0 : DenS :=
  (dAsg 1 (dCall G_law_source (dCons (dVar 0) dNil)))
def s1 : DenS :=
  (dAsg 2 (dCall G_law_names (dCons (dVar 1) (dCons (dC (.int 4)) dNil))))
def s2 : DenS :=
  (dAsg 3 (dLcB true (dIRng1 (dCall G_law_draw (dCons (dVar 1) (dCons (dC (.int 11)) dNil)))) [11] (gdName 11) (stepE dYes (dOp ixO (dVar 2) (dCall G_law_draw (dCons (dVar 1) (dCons (dC (.int 4)) dNil)))))))
def s3 : DenS :=
  (dAsg 4 (dLst (dCons (dCall G_law_cut (dCons (dVar 1) (dCons (dVar 3) dNil))) (dCons (dCall G_law_cut (dCons (dVar 1) (dCons (dVar 3) dNil))) (dCons (dCall G_law_cut (dCons (dVar 1) (dCons (dVar 3) dNil))) dNil)))))
def s4 : DenS :=
  (dAsg 5 (dCall G_law_draw (dCons (dVar 1) (dCons (dC (.int 6)) dNil))))
def s5 : DenS :=
  (dIfS (dB (dOp eqO (dVar 5) (dC (.int 4)))) (dAsgG (dOp addO (dOp ixO (dVar 4) (dC (.int 1))) (dLstV (dCons (dLstV (dCons (dOp ixO (dVar 2) (dCall G_law_draw (dCons (dVar 1) (dCons (dC (.int 4)) dNil)))) dNil)) dNil))) (gdSub (dVar 4) (dC (.int 1)) setO)) dSkip)
def s6 : DenS :=
  (dIfS (dAnd (dB (dOp eqO (dVar 5) (dC (.int 5)))) (dB (dOp gtO (dB' lenO (dCons (dVar 3) dNil)) (dC (.int 0))))) (dSeq (dAsg 10 (dCall G_law_draw (dCons (dVar 1) (dCons (dB' lenO (dCons (dVar 3) dNil)) dNil))))
    (dAsgG (dCall G_law_cut (dCons (dVar 1) (dCons (dOp addO (dOp addO (dSl (dVar 3) none (some (dVar 10))) (dLstV (dCons (dOp ixO (dVar 2) (dCall G_law_draw (dCons (dVar 1) (dCons (dC (.int 4)) dNil)))) dNil))) (dSl (dVar 3) (some (dOp addO (dVar 10) (dC (.int 1)))) none)) dNil))) (gdSub (dVar 4) (dC (.int 2)) setO))) dSkip)
def s7 : DenS :=
  (dAsg 6 (dLcB true (dISeq (dVar 4)) [12] (gdName 12) (stepE dYes (dCall G_law_plan (dCons (dVar 12) dNil)))))
def s8 : DenS :=
  (dFor false [7, 11, 13, 14] (dIRng1 (dC (.int 3))) (gdName 7) (dFor false [11, 13, 14] (dIRng1 (dC (.int 3))) (gdName 11) (dSeq (dAsg 13 (dOp (own2 0 G_Plan_d_led_) (dOp ixO (dVar 6) (dVar 7)) (dOp ixO (dVar 6) (dVar 11))))
    (dSeq (dIfS (dOr (dNot (dB (dIsTy "bool" (dVar 13)))) (dB (dOp neO (dVar 13) (dCall G_law_within (dCons (dOp ixO (dVar 4) (dVar 7)) (dCons (dOp ixO (dVar 4) (dVar 11)) dNil)))))) (dRet (dC (.bl false))) dSkip)
    (dSeq (dIfS (dAnd (dB (dVar 13)) (dAnd (dB (dOp (own2 0 G_Plan_d_led_) (dOp ixO (dVar 6) (dVar 11)) (dOp ixO (dVar 6) (dVar 7)))) (dB (dOp nisO (dOp (own2 0 G_Plan_d_eqd_) (dOp ixO (dVar 6) (dVar 7)) (dOp ixO (dVar 6) (dVar 11))) (dC (.bl true)))))) (dRet (dC (.bl false))) dSkip)
    (dFor false [14] (dIRng1 (dC (.int 3))) (gdName 14) (dIfS (dAnd (dB (dVar 13)) (dAnd (dB (dOp (own2 0 G_Plan_d_led_) (dOp ixO (dVar 6) (dVar 11)) (dOp ixO (dVar 6) (dVar 14)))) (dB (dOp nisO (dOp (own2 0 G_Plan_d_led_) (dOp ixO (dVar 6) (dVar 7)) (dOp ixO (dVar 6) (dVar 14))) (dC (.bl true)))))) (dRet (dC (.bl false))) dSkip)))))))
def s9 : DenS :=
  (dAsg 8 (dCall G_law_plan (dCons (dLcB true (dISeq (dVar 3)) [15] (gdName 15) (stepE dYes (dLstV (dCons (dVar 15) dNil)))) dNil)))
def s10 : DenS :=
  (dAsg 9 (dCall G_law_plan (dCons (dLstV (dCons (dVar 3) dNil)) dNil)))
def s11 : DenS :=
  (dRet (dAndV (dOp (own2 0 G_Plan_d_led_) (dVar 8) (dOp ixO (dVar 6) (dC (.int 0)))) (dAndV (dOp (own2 0 G_Plan_d_led_) (dOp ixO (dVar 6) (dC (.int 0))) (dVar 9)) (dAndV (dOp (own2 0 G_Plan_d_led_) (dVar 8) (dVar 9)) (dOp eqO (dOp (own2 0 G_Plan_d_led_) (dVar 9) (dVar 8)) (dOp ltO (dB' lenO (dCons (dVar 3) dNil)) (dC (.int 2))))))))
theorem law_parts : den_law = (dSeq s0 (dSeq s1 (dSeq s2 (dSeq s3 (dSeq s4 (dSeq s5 (dSeq s6 (dSeq s7 (dSeq s8 (dSeq s9 (dSeq s10 s11))))))))))) := rfl

/-- the three groupings stand in the store -/
def GR (gs : List (List (List Name))) : DObj := .lst (gs.map fun g => .lst (g.map lstN))
def E0 (ns : List Int) (nm row : List Name) (c o : Option D) : DEnv := [some (.scr ns), some (.ref 1), some (lstN nm), some (lstN row), some (.ref 2), c, none, none, none, none, o, none, none, none, none, none]
/-- a name drawn -/
theorem at_name {nm : List Name} {k : Nat} (h : k < nm.length) : atI (nm.map Name.d) (k : Int) = some nm[k].d := by
  rw [FV.atI_nat]; simp [h]
theorem draw_name (s : Src) (r : DSto) {nm : List Name} (hn : nm.length = 4) {ρ : DEnv} (h1 : ρ[1]? = some (some (.ref 1))) (h2 : ρ[2]? = some (some (lstN nm))) : ∃ (x : Name) (s' : Src),
    dOp ixO (dVar 2) (dCall G_law_draw (dCons (dVar 1) (dCons (dC (.int 4)) dNil))) ρ (SS s r) = .ok x.d (SS s' r) := by
  obtain ⟨v, s', e, hv⟩ := draw_ok s r (m := 4) (by decide) (by decide)
  have hv2 : v < nm.length := by omega
  refine ⟨nm[v], s', ?_⟩
  simp [h1, h2, e, at_name hv2]
/-- the row -/
theorem row_ok (s : Src) {ns : List Int} {nm : List Name} (hn : nm.length = 4) : ∃ (row : List Name) (s' : Src), row.length ≤ 10 ∧
    s2 [some (.scr ns), some (.ref 1), some (lstN nm), none, none, none, none, none, none, none, none, none, none, none, none, none] (SS s []) = .nx [some (.scr ns), some (.ref 1), some (lstN nm), some (lstN row), none, none, none, none, none, none, none, none, none, none, none, none] (SS s' []) := by
  obtain ⟨n, s1, e, hv⟩ := draw_ok s [] (m := 11) (by decide) (by decide)
  have hc := compL_inv (c := []) (vs := [11]) (g := gdName 11) (step := stepE dYes (dOp ixO (dVar 2) (dCall G_law_draw (dCons (dVar 1) (dCons (dC (.int 4)) dNil)))))
    (ρ := [some (.scr ns), some (.ref 1), some (lstN nm), none, none, none, none, none, none, none, none, none, none, none, none, none]) (fun k : Nat => D.int (k : Int))
    (fun p acc st => ∃ (s : Src) (row : List Name), st = SS s [] ∧ acc = row.map Name.d ∧ row.length = p.length) (List.range n) [] [] (SS s1 []) ⟨s1, [], rfl, rfl, rfl⟩ (fun _ _ _ _ => rfl) (by
      rintro p k q acc st hpq ⟨s, row, rfl, rfl, hl⟩
      obtain ⟨x, s', ex⟩ := draw_name s [] (ρ := [some (.scr ns), some (.ref 1), some (lstN nm), none, none, none, none, none, none, none, none, some (.int (k : Int)), none, none, none, none]) hn rfl rfl
      have hp : p.length < 100 := by
        have := congrArg List.length hpq
        simp at this
        omega
      refine ⟨_, _, (row ++ [x]).map Name.d, SS s' [], rfl, ?_, s', row ++ [x], rfl, rfl, by simp [hl]⟩
      have hs : (row.map Name.d).length < sizeLine := by rw [List.length_map, szl]; omega
      simp only [wipeE_cons, wipeE_nil, List.set_cons_succ, List.set_cons_zero]
      rw [stepE_ap]
      simp only [dYes_ap]
      rw [ex]
      simp only [if_pos hs, List.map_append, List.map_cons, List.map_nil])
  obtain ⟨acc, st, e2, s', row, rfl, rfl, hl⟩ := hc
  refine ⟨row, s', by simp at hl; omega, ?_⟩
  simp [s2, e, rngO_0 (n := n) (by omega), e2]
/-- the groupings -/
theorem groups_ok (s : Src) {ns : List Int} {nm row : List Name} (hr : row.length ≤ 10) : ∃ (gs : List (List (List Name))) (s' : Src), gs.length = 3 ∧ (∀ g ∈ gs, g.flatten = row ∧ ∀ x ∈ g, x ≠ []) ∧
    s3 [some (.scr ns), some (.ref 1), some (lstN nm), some (lstN row), none, none, none, none, none, none, none, none, none, none, none, none] (SS s []) = .nx (E0 ns nm row none none) (SS s' [GR gs]) := by
  obtain ⟨g1, s1, e1, f1, n1⟩ := cut_ok s [] row (by omega)
  obtain ⟨g2, s2, e2, f2, n2⟩ := cut_ok s1 [] row (by omega)
  obtain ⟨g3, s3', e3, f3, n3⟩ := cut_ok s2 [] row (by omega)
  refine ⟨[g1, g2, g3], s3', rfl, by
    intro g hg
    simp at hg
    rcases hg with rfl | rfl | rfl
    · exact ⟨f1, n1⟩
    · exact ⟨f2, n2⟩
    · exact ⟨f3, n3⟩, ?_⟩
  have e4 := mkLst_ok (xs := [.lst (g1.map lstN), .lst (g2.map lstN), .lst (g3.map lstN)]) (st := SS s3' []) (by show 3 ≤ _; exact FV.s3)
  simp [s3, e1, e2, e3, e4, SS_len, SS_app]
  exact ⟨rfl, rfl⟩
theorem gr_at {s : Src} {gs : List (List (List Name))} : (SS s [GR gs])[2]? = some (.lst (gs.map fun g => .lst (g.map lstN))) := rfl
theorem gr_ix {s : Src} {gs : List (List (List Name))} {k : Nat} (h : k < gs.length) : ixO (.ref 2) (.int (k : Int)) (SS s [GR gs]) = some (.lst (gs[k].map lstN), SS s [GR gs]) := by
  rw [ixO_ref gr_at, FV.atI_nat]; simp [h]
theorem setO_lst {n : Nat} {xs : List D} {k : Int} {v : D} {st : DSto} (h : st[n]? = some (.lst xs)) : setO (.ref n) (.int k) v st = (ixN xs.length k).map fun j => st.set n (.lst (xs.set j v)) := by
  simp only [setO, setLO, h]
theorem gr_set {s : Src} {gs : List (List (List Name))} {k : Nat} {g : List (List Name)} (h : k < gs.length) : setO (.ref 2) (.int (k : Int)) (.lst (g.map lstN)) (SS s [GR gs]) = some (SS s [GR (gs.set k g)]) := by
  have e : ixN gs.length (k : Int) = some k := by
    unfold ixN
    simp
    omega
  rw [setO_lst gr_at, List.length_map, e, Option.map_some]
  rw [show (2 : Nat) = 0 + 2 from rfl, SS_set]
  simp [GR, List.map_set]
/-- the groupings, later on -/
structure Gs (row : List Name) (gs : List (List (List Name))) : Prop where
  l : gs.length = 3
  ne : ∀ g ∈ gs, ∀ x ∈ g, x ≠ []
  fl : ∀ g ∈ gs, g.flatten.length ≤ 20
  g0 : gs[0]!.flatten = row
theorem len_le {g : List (List Name)} (h : ∀ x ∈ g, x ≠ []) : g.length ≤ g.flatten.length := by
  induction g with
  | nil => simp
  | cons x g ih =>
    have := ih fun y hy => h y (List.mem_cons_of_mem _ hy)
    have : x.length ≠ 0 := fun z => h x List.mem_cons_self (List.length_eq_zero_iff.mp z)
    simp only [List.flatten_cons, List.length_append, List.length_cons]
    omega
theorem change4 (s : Src) {ns : List Int} {nm row : List Name} {gs : List (List (List Name))} {c : Int} (hn : nm.length = 4) (h : Gs row gs) (hf : ∀ g ∈ gs, g.flatten.length ≤ 10) : ∃ (gs' : List (List (List Name))) (s' : Src), Gs row gs' ∧
    s5 (E0 ns nm row (some (.int c)) none) (SS s [GR gs]) = .nx (E0 ns nm row (some (.int c)) none) (SS s' [GR gs']) := by
  by_cases hc : c = 4
  · subst hc
    obtain ⟨v, s', ex, hv⟩ := draw_ok s [GR gs] (m := 4) (by decide) (by decide)
    have hv2 : v < nm.length := by omega
    have ea := at_name hv2
    generalize nm[v] = x at ea
    have h1 : 1 < gs.length := by rw [h.l]; decide
    have e1 := gr_ix (s := s) h1
    have hm : gs[1] ∈ gs := List.getElem_mem h1
    have hl := len_le (h.ne _ hm)
    have hl2 := hf _ hm
    have e2 := addO_lst (st := SS s' [GR gs]) (xs := gs[1].map lstN) (ys := [lstN [x]]) (by rw [List.length_map, szl]; simp; omega)
    have e3 := gr_set (s := s') (g := gs[1] ++ [[x]]) h1
    rw [List.map_append] at e3
    refine ⟨gs.set 1 (gs[1] ++ [[x]]), s', ⟨by simp [h.l], ?_, ?_, ?_⟩, ?_⟩
    · intro g hg
      rcases List.mem_or_eq_of_mem_set hg with z | rfl
      · exact h.ne g z
      · intro y hy
        rcases List.mem_append.mp hy with z | z
        · exact h.ne _ hm y z
        · rw [List.mem_singleton.mp z]; simp
    · intro g hg
      rcases List.mem_or_eq_of_mem_set hg with z | rfl
      · exact h.fl g z
      · rw [List.flatten_append, List.length_append]
        simp [-List.length_flatten]
        omega
    · rw [← h.g0]
      simp
    · have e1' : ixO (.ref 2) (.int 1) (SS s [GR gs]) = some (.lst (gs[1].map lstN), SS s [GR gs]) := e1
      have e3' : setO (.ref 2) (.int 1) (.lst (gs[1].map lstN ++ [lstN [x]])) (SS s' [GR gs]) = some (SS s' [GR (gs.set 1 (gs[1] ++ [[x]]))]) := e3
      have e2' : addO (.lst (gs[1].map lstN)) (.lst [.lst [x.d]]) (SS s' [GR gs]) = some (.lst (gs[1].map lstN ++ [.lst [x.d]]), SS s' [GR gs]) := e2
      have e3' : setO (.ref 2) (.int 1) (.lst (gs[1].map lstN ++ [.lst [x.d]])) (SS s' [GR gs]) = some (SS s' [GR (gs.set 1 (gs[1] ++ [[x]]))]) := e3
      simp [s5, E0, e1', ex, ea, e2', e3']
  · refine ⟨gs, s, h, ?_⟩
    simp [s5, E0, hc]
theorem change5 (s : Src) {ns : List Int} {nm row : List Name} {gs : List (List (List Name))} {c : Int} (hn : nm.length = 4) (hr : row.length ≤ 10) (h : Gs row gs) : ∃ (gs' : List (List (List Name))) (s' : Src) (o : Option D), Gs row gs' ∧
    s6 (E0 ns nm row (some (.int c)) none) (SS s [GR gs]) = .nx (E0 ns nm row (some (.int c)) o) (SS s' [GR gs']) := by
  by_cases hc : c = 5 ∧ 0 < row.length
  · obtain ⟨rfl, hp⟩ := hc
    have sz := szl
    obtain ⟨p, s1, ep, hpv⟩ := draw_ok s [GR gs] (m := row.length) (by omega) (by omega)
    obtain ⟨v, s2, ex, hv⟩ := draw_ok s1 [GR gs] (m := 4) (by decide) (by decide)
    have hv2 : v < nm.length := by omega
    have ea := at_name hv2
    generalize nm[v] = x at ea
    obtain ⟨g, s3, eg, fg, ng⟩ := cut_ok s2 [GR gs] (row.take p ++ [x] ++ row.drop (p + 1)) (by simp; omega)
    have h2 : 2 < gs.length := by rw [h.l]; decide
    have e3 : setO (.ref 2) (.int 2) (.lst (g.map lstN)) (SS s3 [GR gs]) = some (SS s3 [GR (gs.set 2 g)]) := gr_set (s := s3) (g := g) h2
    refine ⟨gs.set 2 g, s3, some (.int p), ⟨by simp [h.l], ?_, ?_, ?_⟩, ?_⟩
    · intro y hy
      rcases List.mem_or_eq_of_mem_set hy with z | rfl
      · exact h.ne y z
      · exact ng
    · intro y hy
      rcases List.mem_or_eq_of_mem_set hy with z | rfl
      · exact h.fl y z
      · rw [fg]; simp; omega
    · rw [← h.g0]
      simp
    · have a1 := addO_lst (st := SS s2 [GR gs]) (xs := (row.take p).map Name.d) (ys := [x.d]) (by simp; omega)
      have a2 := addO_lst (st := SS s2 [GR gs]) (xs := (row.take p).map Name.d ++ [x.d]) (ys := (row.drop (p + 1)).map Name.d) (by simp; omega)
      have t1 : FV.cutD (row.map Name.d) none (some (p : Int)) = (row.take p).map Name.d := by rw [cut_take, List.map_take]
      have t2 : FV.cutD (row.map Name.d) (some ((p : Int) + 1)) none = (row.drop (p + 1)).map Name.d := by
        have := cut_drop (xs := row.map Name.d) (k := p + 1)
        rw [Int.natCast_add, Int.natCast_one] at this
        rw [this, List.map_drop]
      have eg' : G_law_cut [.ref 1, .lst ((row.take p).map Name.d ++ [x.d] ++ (row.drop (p + 1)).map Name.d)] (SS s2 [GR gs]) = .ok (.lst (g.map lstN)) (SS s3 [GR gs]) := by
        rw [← eg]; simp [lstN]
      generalize (row.take p).map Name.d = R1 at *
      generalize (row.drop (p + 1)).map Name.d = R2 at *
      have hp0 : (0 : Int) < row.length := by omega
      simp only [List.append_assoc, List.cons_append, List.nil_append] at a2 eg'
      simp [s6, E0, ep, ex, ea, t1, t2, a1, a2, eg', e3, hp]
  · refine ⟨gs, s, none, h, ?_⟩
    by_cases hc5 : c = 5
    · have : row.length = 0 := by
        have := fun z => hc ⟨hc5, z⟩
        omega
      simp [s6, E0, hc5, this]
    · simp [s6, E0, hc5]
/-- the plans -/
theorem plans_ok (s : Src) {ns : List Int} {nm row : List Name} {gs : List (List (List Name))} {c o : Option D} (h : Gs row gs) :
    s7 (E0 ns nm row c o) (SS s [GR gs]) = .nx ((E0 ns nm row c o).set 6 (some (.lst (gs.map planD)))) (SS s [GR gs]) := by
  have sz := szl
  have hc := compL_mapE (c := [(2, GR gs)]) (vs := [12]) (g := gdName 12) (step := stepE dYes (dCall G_law_plan (dCons (dVar 12) dNil))) (ρ := E0 ns nm row c o) (fun g => D.lst (g.map lstN)) planD (st := SS s [GR gs]) (by rw [chkB_cons, show (SS s [GR gs])[2]? = some (GR gs) from rfl]; simp) gs (by rw [h.l]; omega)
    (fun g hg acc ha => by
      have l1 := h.fl g hg
      have l2 := len_le (h.ne g hg)
      have e := lplan_ok (st := SS s [GR gs]) g (by omega)
      rw [ne_ne (h.ne g hg)] at e
      refine ⟨_, rfl, ?_⟩
      simp [E0, e, ha])
  have e7 : dISeq (dVar 4) (E0 ns nm row c o) (SS s [GR gs]) = .ok (gs.map fun g => D.lst (g.map lstN), [(2, GR gs)]) (SS s [GR gs]) := rfl
  unfold s7
  rw [dAsg_ap, dLcB_ap, e7]
  simp only [DRes.bind_ok, hc, lcEnd_t, toS_ok]
theorem plan_at {gs : List (List (List Name))} {i : Nat} (h : i < gs.length) : atI (gs.map planD) (i : Int) = some (planD gs[i]) := by
  rw [FV.atI_nat]; simp [h]
theorem cons3 {α : Type} {l : List α} {P : α → α → Prop} (h : ∀ x ∈ l, ∀ y ∈ l, P x y) {i j : Nat} (hi : i < l.length) (hj : j < l.length) : P l[i] l[j] := h _ (List.getElem_mem hi) _ (List.getElem_mem hj)
theorem loop_ok (s : Src) {ns : List Int} {nm row : List Name} {gs : List (List (List Name))} {c o : Option D} (h : Gs row gs) :
    s8 ((E0 ns nm row c o).set 6 (some (.lst (gs.map planD)))) (SS s [GR gs]) = .nx ((E0 ns nm row c o).set 6 (some (.lst (gs.map planD)))) (SS s [GR gs]) := by
  have hl := h.l
  have r3 : rngO (.int 0) (.int 3) (SS s [GR gs]) = .ok ((List.range 3).map fun k : Nat => D.int (k : Int), []) (SS s [GR gs]) := rngO_0 (n := 3) (by omega)
  have bnd : ∀ (i : Nat) (hi : i < gs.length), gs[i].flatten.length ≤ 20 ∧ gs[i].length ≤ 20 ∧ ∀ x ∈ gs[i], x ≠ [] := fun i hi => by
    have l1 := h.fl _ (List.getElem_mem hi)
    have l2 := len_le (h.ne _ (List.getElem_mem hi))
    exact ⟨l1, by omega, h.ne _ (List.getElem_mem hi)⟩
  have le : ∀ (i j : Nat) (hi : i < gs.length) (hj : j < gs.length), own2 0 G_Plan_d_led_ (planD gs[i]) (planD gs[j]) (SS s [GR gs]) = some (.bl (planLe gs[i] gs[j]), SS s [GR gs]) := fun i j hi hj => by
    obtain ⟨a1, a2, a3⟩ := bnd i hi
    obtain ⟨b1, b2, b3⟩ := bnd j hj
    exact le_ok (by omega) (by omega) (by omega) (by omega)
  have wi : ∀ (i j : Nat) (hi : i < gs.length) (hj : j < gs.length), G_law_within [.lst (gs[i].map lstN), .lst (gs[j].map lstN)] (SS s [GR gs]) = .ok (.bl (planLe gs[i] gs[j])) (SS s [GR gs]) := fun i j hi hj => by
    obtain ⟨a1, a2, a3⟩ := bnd i hi
    obtain ⟨b1, b2, b3⟩ := bnd j hj
    exact within_ok a3 b3 (by omega) (by omega) (by omega) (by omega)
  have hk : ∀ (i j : Nat) (hi : i < gs.length) (hj : j < gs.length), forL false [14] [] (gdName 14) (dIfS (dAnd (dB (dVar 13)) (dAnd (dB (dOp (own2 0 G_Plan_d_led_) (dOp ixO (dVar 6) (dVar 11)) (dOp ixO (dVar 6) (dVar 14)))) (dB (dOp nisO (dOp (own2 0 G_Plan_d_led_) (dOp ixO (dVar 6) (dVar 7)) (dOp ixO (dVar 6) (dVar 14))) (dC (.bl true)))))) (dRet (dC (.bl false))) dSkip)
      ((List.range 3).map fun k : Nat => D.int (k : Int)) [some (.scr ns), some (.ref 1), some (lstN nm), some (lstN row), some (.ref 2), c, some (.lst (gs.map planD)), some (.int (i : Int)), none, none, o, some (.int (j : Int)), none, some (.bl (planLe gs[i] gs[j])), none, none] (SS s [GR gs]) =
      .nx [some (.scr ns), some (.ref 1), some (lstN nm), some (lstN row), some (.ref 2), c, some (.lst (gs.map planD)), some (.int (i : Int)), none, none, o, some (.int (j : Int)), none, some (.bl (planLe gs[i] gs[j])), none, none] (SS s [GR gs]) := fun i j hi hj => by
    refine forL_known (c := []) (pop := false) (ws := [14]) (fun k : Nat => D.int (k : Int)) (fun _ => [some (.scr ns), some (.ref 1), some (lstN nm), some (lstN row), some (.ref 2), c, some (.lst (gs.map planD)), some (.int (i : Int)), none, none, o, some (.int (j : Int)), none, some (.bl (planLe gs[i] gs[j])), none, none]) (fun _ => SS s [GR gs]) (List.range 3) (fun _ _ _ => rfl) fun p k q hpq => ?_
    have hk : k < gs.length := by
      have : k ∈ List.range 3 := by rw [hpq]; simp
      rw [hl]; exact List.mem_range.mp this
    refine ⟨_, _, [some (.scr ns), some (.ref 1), some (lstN nm), some (lstN row), some (.ref 2), c, some (.lst (gs.map planD)), some (.int (i : Int)), none, none, o, some (.int (j : Int)), none, some (.bl (planLe gs[i] gs[j])), some (.int (k : Int)), none], _, rfl, .inl ?_, rfl⟩
    cases h1 : planLe gs[i] gs[j] with
    | false => simp
    | true =>
      cases h2 : planLe gs[j] gs[k] with
      | false => simp [plan_at hj, plan_at hk, le j k hj hk, h2]
      | true => simp [plan_at hi, plan_at hj, plan_at hk, le j k hj hk, le i k hi hk, h2, planLe_trans h1 h2, nisO]
  unfold s8
  simp only [dFor_ap, dIRng1_ap, dC_ap, DRes.bind_ok, r3, toS_ok]
  refine forL_known (c := []) (pop := false) (ws := [7, 11, 13, 14]) (fun k : Nat => D.int (k : Int)) (fun _ => (E0 ns nm row c o).set 6 (some (.lst (gs.map planD)))) (fun _ => SS s [GR gs]) (List.range 3) (fun _ _ _ => rfl) fun p i q hpq => ?_
  have hi : i < gs.length := by
    have : i ∈ List.range 3 := by rw [hpq]; simp
    rw [hl]; exact List.mem_range.mp this
  refine ⟨_, _, [some (.scr ns), some (.ref 1), some (lstN nm), some (lstN row), some (.ref 2), c, some (.lst (gs.map planD)), some (.int (i : Int)), none, none, o, none, none, none, none, none], _, rfl, .inl ?_, rfl⟩
  simp only [r3, toS_ok, dFor_ap, dIRng1_ap, dC_ap, DRes.bind_ok]
  refine forL_known (c := []) (pop := false) (ws := [11, 13, 14]) (fun k : Nat => D.int (k : Int)) (fun _ => [some (.scr ns), some (.ref 1), some (lstN nm), some (lstN row), some (.ref 2), c, some (.lst (gs.map planD)), some (.int (i : Int)), none, none, o, none, none, none, none, none]) (fun _ => SS s [GR gs]) (List.range 3) (fun _ _ _ => rfl) fun p j q hpq => ?_
  have hj : j < gs.length := by
    have : j ∈ List.range 3 := by rw [hpq]; simp
    rw [hl]; exact List.mem_range.mp this
  refine ⟨_, _, [some (.scr ns), some (.ref 1), some (lstN nm), some (lstN row), some (.ref 2), c, some (.lst (gs.map planD)), some (.int (i : Int)), none, none, o, some (.int (j : Int)), none, some (.bl (planLe gs[i] gs[j])), none, none], _, rfl, .inl ?_, rfl⟩
  have hk' := hk i j hi hj
  have gi := gr_ix (s := s) hi
  have gj := gr_ix (s := s) hj
  have kb : kitB "bool" "bool" = some true := by decide
  cases h1 : planLe gs[i] gs[j] with
  | false =>
    rw [h1] at hk'
    simp [plan_at hi, plan_at hj, le i j hi hj, h1, tyName, kb, gi, gj, wi i j hi hj, r3, hk']
  | true =>
    rw [h1] at hk'
    cases h2 : planLe gs[j] gs[i] with
    | false => simp [plan_at hi, plan_at hj, le i j hi hj, le j i hj hi, h1, h2, tyName, kb, gi, gj, wi i j hi hj, r3, hk']
    | true =>
      have eqt : own2 0 G_Plan_d_eqd_ (planD gs[i]) (planD gs[j]) (SS s [GR gs]) = some (.bl true, SS s [GR gs]) := by
        rw [eq_ok, decide_eq_true (planLe_anti (bnd i hi).2.2 (bnd j hj).2.2 h1 h2)]
      simp [plan_at hi, plan_at hj, le i j hi hj, le j i hj hi, h1, h2, tyName, kb, gi, gj, wi i j hi hj, r3, hk', eqt, nisO]
/-- one group each -/
def ones (row : List Name) : List (List Name) := row.map fun x => [x]
theorem ones_flat (row : List Name) : (ones row).flatten = row := by
  induction row with
  | nil => rfl
  | cons x row ih => unfold ones at ih ⊢; rw [List.map_cons, List.flatten_cons, ih]; rfl
theorem ones_pos {row : List Name} {i : Nat} (h : i ≤ row.length) : pos (ones row) i = i := by
  unfold pos ones
  rw [← List.map_take]
  rw [show ((row.take i).map fun x => [x]).flatten = row.take i from ones_flat _]
  simp [h]
theorem ones_ne (row : List Name) : ∀ g ∈ ones row, g ≠ [] := fun g hg => by
  obtain ⟨x, _, rfl⟩ := List.mem_map.mp hg
  simp
theorem ones_len (row : List Name) : (ones row).length = row.length := List.length_map _
theorem ones_le {b : List (List Name)} {row : List Name} (hb : ∀ g ∈ b, g ≠ []) (e : b.flatten = row) : planLe (ones row) b = true := by
  refine planLe_iff.mpr ⟨by rw [ones_flat, e], fun j hj => ?_⟩
  have l1 := pos_lt hb hj
  have l2 : pos b (j + 1) ≤ b.flatten.length := by rw [← pos_all]; exact pos_mono hj
  rw [e] at l2
  refine ⟨pos b (j + 1) - 1, by rw [ones_len]; omega, ?_⟩
  rw [ones_pos (by omega)]
  omega
theorem whole_flat (row : List Name) : (ne [row]).flatten = row := by rw [ne_flat]; simp
theorem whole_le {a : List (List Name)} {row : List Name} (ha : ∀ g ∈ a, g ≠ []) (e : a.flatten = row) : planLe a (ne [row]) = true := by
  refine planLe_iff.mpr ⟨by rw [whole_flat, e], fun j hj => ?_⟩
  have hl : (ne [row]).length ≤ 1 := List.length_filter_le ..
  have hj0 : j = 0 := by omega
  subst hj0
  have h1 : (ne [row]).length = 1 := by omega
  have h2 : pos (ne [row]) 1 = row.length := by rw [← h1, pos_all, whole_flat]
  have h3 : pos (ne [row]) 0 < pos (ne [row]) 1 := pos_lt (ne_of [row]) hj
  have h4 : a.length ≠ 0 := fun z => by
    have : row.length = 0 := by rw [← e, List.length_eq_zero_iff.mp z]; rfl
    omega
  refine ⟨a.length - 1, by omega, ?_⟩
  rw [show a.length - 1 + 1 = a.length by omega, pos_all, e, h2]
theorem whole_ones (row : List Name) : planLe (ne [row]) (ones row) = decide (row.length < 2) := by
  rw [Bool.eq_iff_iff, planLe_iff, decide_eq_true_iff]
  have hl : (ne [row]).length ≤ 1 := List.length_filter_le ..
  constructor
  · rintro ⟨_, h⟩
    refine Classical.byContradiction fun q => ?_
    obtain ⟨i, hi, e⟩ := h 0 (by rw [ones_len]; omega)
    rw [ones_pos (by omega)] at e
    have h1 : (ne [row]).length = 1 := by omega
    have h2 : pos (ne [row]) 1 = row.length := by rw [← h1, pos_all, whole_flat]
    have hi0 : i = 0 := by omega
    subst hi0
    have e' : 1 = pos (ne [row]) 1 := e
    omega
  · intro h
    refine ⟨by rw [whole_flat, ones_flat], fun j hj => ?_⟩
    rw [ones_len] at hj
    have h1 : row.length = 1 := by omega
    have hj0 : j = 0 := by omega
    subst hj0
    have h3 : ne [row] = [row] := ne_ne (by simp; intro z; simp [z] at h1)
    refine ⟨0, by rw [h3]; exact Nat.zero_lt_one, ?_⟩
    rw [ones_pos (by omega), h3]
    simp [pos, h1]
theorem end_ok (s : Src) {ns : List Int} {nm row : List Name} {gs : List (List (List Name))} {c o : Option D} (hr : row.length ≤ 10) (h : Gs row gs) :
    dSeq s9 (dSeq s10 s11) ((E0 ns nm row c o).set 6 (some (.lst (gs.map planD)))) (SS s [GR gs]) = .rt (.bl true) (SS s [GR gs]) := by
  have sz := szl
  have h0 : 0 < gs.length := by rw [h.l]; decide
  have f0 : gs[0].flatten = row := by rw [← h.g0]; simp [h0]
  have n0 := h.ne _ (List.getElem_mem h0)
  have l0 := len_le n0
  rw [f0] at l0
  have hc : compL [] [15] (gdName 15) (stepE dYes (dLstV (dCons (dVar 15) dNil))) ((E0 ns nm row c o).set 6 (some (.lst (gs.map planD)))) (row.map Name.d) [] (SS s [GR gs]) = some ((ones row).map lstN, SS s [GR gs]) := by
    rw [show (ones row).map lstN = row.map fun x => lstN [x] by simp [ones, lstN]]
    refine compL_mapE Name.d _ rfl _ (by omega) fun x hx acc ha => ⟨_, rfl, ?_⟩
    simp [E0, ha]
  have e1 := lplan_ok (st := SS s [GR gs]) (ones row) (by rw [ones_len]; omega)
  rw [ne_ne (ones_ne row)] at e1
  have e2 := lplan_ok (st := SS s [GR gs]) [row] (by simp)
  have lw : (ne [row]).length ≤ 1 := List.length_filter_le ..
  have a1 := le_ok (st := SS s [GR gs]) (a := ones row) (b := gs[0]) (by rw [ones_flat]; omega) (by rw [f0]; omega) (by rw [ones_len]; omega) (by omega)
  have a2 := le_ok (st := SS s [GR gs]) (a := gs[0]) (b := ne [row]) (by rw [f0]; omega) (by rw [whole_flat]; omega) (by omega) (by omega)
  have a3 := le_ok (st := SS s [GR gs]) (a := ones row) (b := ne [row]) (by rw [ones_flat]; omega) (by rw [whole_flat]; omega) (by rw [ones_len]; omega) (by omega)
  have a4 := le_ok (st := SS s [GR gs]) (a := ne [row]) (b := ones row) (by rw [whole_flat]; omega) (by rw [ones_flat]; omega) (by omega) (by rw [ones_len]; omega)
  rw [ones_le n0 f0] at a1
  rw [whole_le n0 f0] at a2
  rw [ones_le (ne_of [row]) (whole_flat row)] at a3
  rw [whole_ones] at a4
  have p0 : ixO (.lst (gs.map planD)) (.int 0) (SS s [GR gs]) = some (planD gs[0], SS s [GR gs]) := by
    have := plan_at h0
    rw [ixO_lst, show (0 : Int) = ((0 : Nat) : Int) from rfl, this]; rfl
  have q9 : s9 ((E0 ns nm row c o).set 6 (some (.lst (gs.map planD)))) (SS s [GR gs]) = .nx (((E0 ns nm row c o).set 6 (some (.lst (gs.map planD)))).set 8 (some (planD (ones row)))) (SS s [GR gs]) := by
    have e7 : dISeq (dVar 3) ((E0 ns nm row c o).set 6 (some (.lst (gs.map planD)))) (SS s [GR gs]) = .ok (row.map Name.d, []) (SS s [GR gs]) := rfl
    unfold s9
    simp only [dAsg_ap, dCall_ap, dCons_ap, dNil_ap, dLcB_ap, e7, DRes.bind_ok, hc, lcEnd_t, e1, toS_ok]
  rw [dSeq_ap, q9]
  have e2' : G_law_plan [.lst [lstN row]] (SS s [GR gs]) = .ok (planD (ne [row])) (SS s [GR gs]) := e2
  have hnat : (decide ((row.length : Int) < 2)) = decide (row.length < 2) := by
    by_cases q : row.length < 2
    · rw [decide_eq_true q, decide_eq_true (by omega)]
    · rw [decide_eq_false q, decide_eq_false (by omega)]
  simp [s10, s11, E0, e2', a1, a2, a3, a4, p0, hnat, ofR, -ixO_lst]
/-- the law, in plain Lean -/
theorem law_plain (ns : List Int) (hl : ns.length ≤ 63) : ∃ st, G_law [.scr ns] [] = .ok (.bl true) st := by
  obtain ⟨s, e0⟩ := source_ok ns hl
  obtain ⟨nm, t1, e1, hn, _, _⟩ := names_ok s [] (count := 4) (by decide)
  obtain ⟨row, t2, hr, e2⟩ := row_ok t1 (ns := ns) hn
  obtain ⟨gs, t3, g3, gf, e3⟩ := groups_ok t2 (ns := ns) (nm := nm) hr
  obtain ⟨c, t4, e4, _⟩ := draw_ok t3 [GR gs] (m := 6) (by decide) (by decide)
  have h : Gs row gs := ⟨g3, fun g hg => (gf g hg).2, fun g hg => by rw [(gf g hg).1]; omega, by
    have h0 : 0 < gs.length := by rw [g3]; decide
    rw [show gs[0]! = gs[0] by simp [h0]]
    exact (gf _ (List.getElem_mem h0)).1⟩
  obtain ⟨gs5, s5', h5, e5⟩ := change4 t4 (ns := ns) (c := c) hn h (fun g hg => by rw [(gf g hg).1]; omega)
  obtain ⟨gs6, s6', o, h6, e6⟩ := change5 s5' (ns := ns) (c := c) hn hr h5
  have e7 := plans_ok s6' (ns := ns) (nm := nm) (c := some (.int c)) (o := o) h6
  have e8 := loop_ok s6' (ns := ns) (nm := nm) (c := some (.int c)) (o := o) h6
  have e9 := end_ok s6' (ns := ns) (nm := nm) (c := some (.int c)) (o := o) hr h6
  have e1' : G_law_names [.ref 1, .int 4] (SS s []) = .ok (lstN nm) (SS t1 []) := e1
  refine ⟨[], ?_⟩
  unfold G_law
  rw [bodyP_ap]
  have b : bodyF 1 16 den_law [.scr ns] [] = .ok (.bl true) (SS s6' [GR gs6]) := by
    refine bodyF_rt (E := [some (.scr ns), none, none, none, none, none, none, none, none, none, none, none, none, none, none, none]) rfl rfl ?_
    rw [law_parts]
    rw [dSeq_ap, show s0 [some (.scr ns), none, none, none, none, none, none, none, none, none, none, none, none, none, none, none] [] = .nx [some (.scr ns), some (.ref 1), none, none, none, none, none, none, none, none, none, none, none, none, none, none] (SS s []) by simp [s0, e0], andThen_nx]
    rw [dSeq_ap, show s1 _ _ = .nx [some (.scr ns), some (.ref 1), some (lstN nm), none, none, none, none, none, none, none, none, none, none, none, none, none] (SS t1 []) by simp [K11.s1, e1'], andThen_nx]
    rw [dSeq_ap, e2, andThen_nx, dSeq_ap, e3, andThen_nx]
    rw [dSeq_ap, show s4 (E0 ns nm row none none) (SS _ [GR gs]) = .nx (E0 ns nm row (some (.int c)) none) (SS t4 [GR gs]) by simp [K11.s4, E0, e4], andThen_nx]
    rw [dSeq_ap, e5, andThen_nx, dSeq_ap, e6, andThen_nx, dSeq_ap, e7, andThen_nx, dSeq_ap, e8, andThen_nx, e9]
  rw [b]
  exact popR_ok rfl (by have := popS_app (st := []) (ν := SS s6' [GR gs6]); rwa [List.nil_append] at this)
end K11

set_option Elab.async false
set_option linter.all false
set_option maxRecDepth 100000
set_option maxHeartbeats 4000000
namespace K11
open PySem PySem.Spec PyProof.Rows L2 FV
def FTs : List Str := [(PySem.Str.ofString "groups"), (PySem.Str.ofString "fields"), (PySem.Str.ofString "kinds"), (PySem.Str.ofString "_families"), (PySem.Str.ofString "_children"), (PySem.Str.ofString "families"), (PySem.Str.ofString "root"), (PySem.Str.ofString "_sizes"), (PySem.Str.ofString "grammar"), (PySem.Str.ofString "names"), (PySem.Str.ofString "_ignored"), (PySem.Str.ofString "_bodies"), (PySem.Str.ofString "program"), (PySem.Str.ofString "kept"), (PySem.Str.ofString "kind"), (PySem.Str.ofString "family"), (PySem.Str.ofString "children"), (PySem.Str.ofString "size"), (PySem.Str.ofString "depth"), (PySem.Str.ofString "events"), (PySem.Str.ofString "sources"), (PySem.Str.ofString "rows"), (PySem.Str.ofString "tree"), (PySem.Str.ofString "trace"), (PySem.Str.ofString "turns"), (PySem.Str.ofString "count"), (PySem.Str.ofString "schedules"), (PySem.Str.ofString "path"), (PySem.Str.ofString "batch"), (PySem.Str.ofString "earlier"), (PySem.Str.ofString "later"), (PySem.Str.ofString "first"), (PySem.Str.ofString "second"), (PySem.Str.ofString "place"), (PySem.Str.ofString "field"), (PySem.Str.ofString "limit"), (PySem.Str.ofString "name"), (PySem.Str.ofString "part"), (PySem.Str.ofString "walk"), (PySem.Str.ofString "index"), (PySem.Str.ofString "way"), (PySem.Str.ofString "loop"), (PySem.Str.ofString "cycle")]
def tb (P : Program) (w : World) (K : PySem.W.Frag) (C0 : Addr) : Tb := ⟨P, w, K, [C0, 0, 0, 0, 0, 0, 0, 0, 0, 0, 0, 0, 0, 0, 0, 0, 0, 0, 0], FTs, by decide +kernel, none⟩
def spLaw (K : PySem.W.Frag) : Sp := fun vs H Q _ => ∃ (a : Addr) (ns : List Int), vs = [.ref a] ∧ Only H ∧ SqL K H a (ns.map V.int) ∧ ns.length ≤ 63 ∧ ∀ H', Q (.bl true) H'
theorem sp_law {P : Program} {w : World} {K : PySem.W.Frag} {C0 : Addr} {vs : List V} {H : Hp} {Q : VK} {E : XK} (h : spLaw K vs H Q E) : spR (tb P w K C0) G_law vs H Q E := by
  obtain ⟨a, ns, rfl, hO, hS, hl, k⟩ := h
  obtain ⟨st, e⟩ := law_plain ns hl
  refine ⟨⟨[], []⟩, [.scr ns], [], ⟨rfl, fun i o b e1 e2 => by simp at e1, fun i j b e1 e2 => by simp at e1, fun a ha => by simp at ha, fun a ha => by simp at ha⟩, RVs.one (by simp only [RV]; exact ⟨a, rfl, (script_rv hO hS).imp (fun ⟨o, z⟩ => ⟨o, ⟨by simp, by simp⟩, z⟩) id⟩), ?_⟩
  rw [e]
  intro μ' v H' s x r
  simp only [RV] at r
  subst r
  exact k H'
theorem all_mk {l : PySem.W.OpenLaw} {w : World} {K : PySem.W.Frag} {h : Heap} {mg : Str → Option Value} {fa : Addr} (X0 : K.In h) (G0 : h.Ns mainGlobals mg) (hfa : mg "law" = some (.ref fa))
    {C0 : Addr} {f_law_source : Addr} {od_law_source an_law_source : Option Addr} {sl_law_source : Array (Option Value)} {oc_law_source kV_law_source dc_law_source pm_law_source cd_law_source ct_law_source : Value} {f_law_draw : Addr} {od_law_draw an_law_draw : Option Addr} {sl_law_draw : Array (Option Value)} {oc_law_draw kV_law_draw dc_law_draw pm_law_draw cd_law_draw ct_law_draw : Value} {f_law_names : Addr} {od_law_names an_law_names : Option Addr} {sl_law_names : Array (Option Value)} {oc_law_names kV_law_names dc_law_names pm_law_names cd_law_names ct_law_names : Value} {f_law_cut : Addr} {od_law_cut an_law_cut : Option Addr} {sl_law_cut : Array (Option Value)} {oc_law_cut kV_law_cut dc_law_cut pm_law_cut cd_law_cut ct_law_cut : Value} {f_Plan_d_initd_ : Addr} {od_Plan_d_initd_ an_Plan_d_initd_ : Option Addr} {sl_Plan_d_initd_ : Array (Option Value)} {oc_Plan_d_initd_ kV_Plan_d_initd_ dc_Plan_d_initd_ pm_Plan_d_initd_ cd_Plan_d_initd_ ct_Plan_d_initd_ : Value} {f_Plan_d_addd_ : Addr} {od_Plan_d_addd_ an_Plan_d_addd_ : Option Addr} {sl_Plan_d_addd_ : Array (Option Value)} {oc_Plan_d_addd_ kV_Plan_d_addd_ dc_Plan_d_addd_ pm_Plan_d_addd_ cd_Plan_d_addd_ ct_Plan_d_addd_ : Value} {f_law_plan : Addr} {od_law_plan an_law_plan : Option Addr} {sl_law_plan : Array (Option Value)} {oc_law_plan kV_law_plan dc_law_plan pm_law_plan cd_law_plan ct_law_plan : Value} {f_Plan_cuts : Addr} {od_Plan_cuts an_Plan_cuts : Option Addr} {sl_Plan_cuts : Array (Option Value)} {oc_Plan_cuts kV_Plan_cuts dc_Plan_cuts pm_Plan_cuts cd_Plan_cuts ct_Plan_cuts : Value} {f_Plan_walks : Addr} {od_Plan_walks an_Plan_walks : Option Addr} {sl_Plan_walks : Array (Option Value)} {oc_Plan_walks kV_Plan_walks dc_Plan_walks pm_Plan_walks cd_Plan_walks ct_Plan_walks : Value} {p_Plan_walks : Addr} {rs_Plan_walks : List Value} {f_Plan_d_led_ : Addr} {od_Plan_d_led_ an_Plan_d_led_ : Option Addr} {sl_Plan_d_led_ : Array (Option Value)} {oc_Plan_d_led_ kV_Plan_d_led_ dc_Plan_d_led_ pm_Plan_d_led_ cd_Plan_d_led_ ct_Plan_d_led_ : Value} {f_law_within : Addr} {od_law_within an_law_within : Option Addr} {sl_law_within : Array (Option Value)} {oc_law_within kV_law_within dc_law_within pm_law_within cd_law_within ct_law_within : Value} {f_Plan_d_eqd_ : Addr} {od_Plan_d_eqd_ an_Plan_d_eqd_ : Option Addr} {sl_Plan_d_eqd_ : Array (Option Value)} {oc_Plan_d_eqd_ kV_Plan_d_eqd_ dc_Plan_d_eqd_ pm_Plan_d_eqd_ cd_Plan_d_eqd_ ct_Plan_d_eqd_ : Value} {f_law : Addr} {od_law an_law : Option Addr} {sl_law : Array (Option Value)} {oc_law kV_law dc_law pm_law cd_law ct_law : Value}
    (aC0 : PySem.W.nsIn K mainGlobals (PySem.Str.ofString "Plan") = some (some (.ref C0)))
    (pg0 : PySem.W.plainGet K C0 Str.empty = true)
    (hd0 : PySem.W.hasDictIn K C0 = true)
    (po0 : PySem.W.plainOver K C0 = true)
    (sa0 : PySem.W.findIn K (.ref C0) "__setattr__" = some (some (.builtin "object.__setattr__")))
    (mk0 : PySem.W.makesIn K C0 = true)
    (kc0 : PySem.W.keepIn K (.ref C0) = true)
    (z_int : PySem.W.nsIn K mainGlobals (PySem.Str.ofString "int") = some none)
    (z_sum : PySem.W.nsIn K mainGlobals (PySem.Str.ofString "sum") = some none)
    (z_len : PySem.W.nsIn K mainGlobals (PySem.Str.ofString "len") = some none)
    (z_range : PySem.W.nsIn K mainGlobals (PySem.Str.ofString "range") = some none)
    (z_tuple : PySem.W.nsIn K mainGlobals (PySem.Str.ofString "tuple") = some none)
    (rna_0_0 : PySem.W.findIn K (.ref C0) (PySem.Str.ofString "groups") = some none)
    (z_list : PySem.W.nsIn K mainGlobals (PySem.Str.ofString "list") = some none)
    (rsf_0 : PySem.W.selfFirst K C0 = true)
    (z_all : PySem.W.nsIn K mainGlobals (PySem.Str.ofString "all") = some none)
    (z_any : PySem.W.nsIn K mainGlobals (PySem.Str.ofString "any") = some none)
    (is1_0 : PySem.W.findIn K (.ref C0) "__class__" = some (some (.builtin "object.__class__")))
    (is3_0 : PySem.W.mroIn K C0 (.type "object") = some true)
    (is5_0 : PySem.W.specialIn K (.builtin "object.__class__") "__get__" = some (some (.builtin "getset_descriptor.__get__")))
    (is6_0 : PySem.W.takesIn K (.builtin "object.__class__") = some true)
    (z_isinstance : PySem.W.nsIn K mainGlobals (PySem.Str.ofString "isinstance") = some none)
    (rnf_0 : PySem.W.notFirst K C0 (.ref C0) = true)
    (z_bool : PySem.W.nsIn K mainGlobals (PySem.Str.ofString "bool") = some none)
    (l_law_source : K.lookup f_law_source = some ⟨oc_law_source, od_law_source, .func (PySem.W.fnOf (PySem.Str.ofString "_law_source") (PySem.Str.ofString "_law_source") (defArgs st_law_source) (defBody st_law_source) (defScope st_law_source) .none kV_law_source dc_law_source pm_law_source an_law_source cd_law_source ct_law_source), sl_law_source⟩)
    (c_law_source : PySem.W.codeIn K cd_law_source (PySem.Str.ofString "_law_source") = true)
    (k_law_source : PySem.W.keepIn K (.ref f_law_source) = true)
    (a_law_source : PySem.W.nsIn K mainGlobals (PySem.Str.ofString "_law_source") = some (some (.ref f_law_source)))
    (l_law_draw : K.lookup f_law_draw = some ⟨oc_law_draw, od_law_draw, .func (PySem.W.fnOf (PySem.Str.ofString "_law_draw") (PySem.Str.ofString "_law_draw") (defArgs st_law_draw) (defBody st_law_draw) (defScope st_law_draw) .none kV_law_draw dc_law_draw pm_law_draw an_law_draw cd_law_draw ct_law_draw), sl_law_draw⟩)
    (c_law_draw : PySem.W.codeIn K cd_law_draw (PySem.Str.ofString "_law_draw") = true)
    (k_law_draw : PySem.W.keepIn K (.ref f_law_draw) = true)
    (a_law_draw : PySem.W.nsIn K mainGlobals (PySem.Str.ofString "_law_draw") = some (some (.ref f_law_draw)))
    (l_law_names : K.lookup f_law_names = some ⟨oc_law_names, od_law_names, .func (PySem.W.fnOf (PySem.Str.ofString "_law_names") (PySem.Str.ofString "_law_names") (defArgs st_law_names) (defBody st_law_names) (defScope st_law_names) .none kV_law_names dc_law_names pm_law_names an_law_names cd_law_names ct_law_names), sl_law_names⟩)
    (c_law_names : PySem.W.codeIn K cd_law_names (PySem.Str.ofString "_law_names") = true)
    (k_law_names : PySem.W.keepIn K (.ref f_law_names) = true)
    (a_law_names : PySem.W.nsIn K mainGlobals (PySem.Str.ofString "_law_names") = some (some (.ref f_law_names)))
    (l_law_cut : K.lookup f_law_cut = some ⟨oc_law_cut, od_law_cut, .func (PySem.W.fnOf (PySem.Str.ofString "_law_cut") (PySem.Str.ofString "_law_cut") (defArgs st_law_cut) (defBody st_law_cut) (defScope st_law_cut) .none kV_law_cut dc_law_cut pm_law_cut an_law_cut cd_law_cut ct_law_cut), sl_law_cut⟩)
    (c_law_cut : PySem.W.codeIn K cd_law_cut (PySem.Str.ofString "_law_cut") = true)
    (k_law_cut : PySem.W.keepIn K (.ref f_law_cut) = true)
    (a_law_cut : PySem.W.nsIn K mainGlobals (PySem.Str.ofString "_law_cut") = some (some (.ref f_law_cut)))
    (l_Plan_d_initd_ : K.lookup f_Plan_d_initd_ = some ⟨oc_Plan_d_initd_, od_Plan_d_initd_, .func (PySem.W.fnOf (PySem.Str.ofString "__init__") (PySem.Str.ofString "Plan.__init__") (defArgs st_Plan_d_initd_) (defBody st_Plan_d_initd_) (defScope st_Plan_d_initd_) .none kV_Plan_d_initd_ dc_Plan_d_initd_ pm_Plan_d_initd_ an_Plan_d_initd_ cd_Plan_d_initd_ ct_Plan_d_initd_), sl_Plan_d_initd_⟩)
    (c_Plan_d_initd_ : PySem.W.codeIn K cd_Plan_d_initd_ (PySem.Str.ofString "Plan.__init__") = true)
    (k_Plan_d_initd_ : PySem.W.keepIn K (.ref f_Plan_d_initd_) = true)
    (a_Plan_d_initd_ : PySem.W.findIn K (.ref C0) (PySem.Str.ofString "__init__") = some (some (.ref f_Plan_d_initd_)))
    (i_Plan_d_initd_ : PySem.W.isFn K (.ref f_Plan_d_initd_) = true)
    (l_Plan_d_addd_ : K.lookup f_Plan_d_addd_ = some ⟨oc_Plan_d_addd_, od_Plan_d_addd_, .func (PySem.W.fnOf (PySem.Str.ofString "__add__") (PySem.Str.ofString "Plan.__add__") (defArgs st_Plan_d_addd_) (defBody st_Plan_d_addd_) (defScope st_Plan_d_addd_) .none kV_Plan_d_addd_ dc_Plan_d_addd_ pm_Plan_d_addd_ an_Plan_d_addd_ cd_Plan_d_addd_ ct_Plan_d_addd_), sl_Plan_d_addd_⟩)
    (c_Plan_d_addd_ : PySem.W.codeIn K cd_Plan_d_addd_ (PySem.Str.ofString "Plan.__add__") = true)
    (k_Plan_d_addd_ : PySem.W.keepIn K (.ref f_Plan_d_addd_) = true)
    (a_Plan_d_addd_ : PySem.W.findIn K (.ref C0) (PySem.Str.ofString "__add__") = some (some (.ref f_Plan_d_addd_)))
    (i_Plan_d_addd_ : PySem.W.isFn K (.ref f_Plan_d_addd_) = true)
    (l_law_plan : K.lookup f_law_plan = some ⟨oc_law_plan, od_law_plan, .func (PySem.W.fnOf (PySem.Str.ofString "_law_plan") (PySem.Str.ofString "_law_plan") (defArgs st_law_plan) (defBody st_law_plan) (defScope st_law_plan) .none kV_law_plan dc_law_plan pm_law_plan an_law_plan cd_law_plan ct_law_plan), sl_law_plan⟩)
    (c_law_plan : PySem.W.codeIn K cd_law_plan (PySem.Str.ofString "_law_plan") = true)
    (k_law_plan : PySem.W.keepIn K (.ref f_law_plan) = true)
    (a_law_plan : PySem.W.nsIn K mainGlobals (PySem.Str.ofString "_law_plan") = some (some (.ref f_law_plan)))
    (l_Plan_cuts : K.lookup f_Plan_cuts = some ⟨oc_Plan_cuts, od_Plan_cuts, .func (PySem.W.fnOf (PySem.Str.ofString "cuts") (PySem.Str.ofString "Plan.cuts") (defArgs st_Plan_cuts) (defBody st_Plan_cuts) (defScope st_Plan_cuts) .none kV_Plan_cuts dc_Plan_cuts pm_Plan_cuts an_Plan_cuts cd_Plan_cuts ct_Plan_cuts), sl_Plan_cuts⟩)
    (c_Plan_cuts : PySem.W.codeIn K cd_Plan_cuts (PySem.Str.ofString "Plan.cuts") = true)
    (k_Plan_cuts : PySem.W.keepIn K (.ref f_Plan_cuts) = true)
    (a_Plan_cuts : PySem.W.findIn K (.ref C0) (PySem.Str.ofString "cuts") = some (some (.ref f_Plan_cuts)))
    (i_Plan_cuts : PySem.W.isFn K (.ref f_Plan_cuts) = true)
    (l_Plan_walks : K.lookup f_Plan_walks = some ⟨oc_Plan_walks, od_Plan_walks, .func (PySem.W.fnOf (PySem.Str.ofString "walks") (PySem.Str.ofString "Plan.walks") (defArgs st_Plan_walks) (defBody st_Plan_walks) (defScope st_Plan_walks) .none kV_Plan_walks dc_Plan_walks pm_Plan_walks an_Plan_walks cd_Plan_walks ct_Plan_walks), sl_Plan_walks⟩)
    (c_Plan_walks : PySem.W.codeIn K cd_Plan_walks (PySem.Str.ofString "Plan.walks") = true)
    (k_Plan_walks : PySem.W.keepIn K (.ref f_Plan_walks) = true)
    (a_Plan_walks : PySem.W.findIn K (.ref C0) (PySem.Str.ofString "walks") = some (some (.ref p_Plan_walks)))
    (g_Plan_walks : PySem.W.specialIn K (.ref p_Plan_walks) "__get__" = some (some (.builtin "property.__get__")))
    (t_Plan_walks : PySem.W.takesIn K (.ref p_Plan_walks) = some true)
    (r_Plan_walks : PySem.W.recIn K p_Plan_walks "property" = some (.ref f_Plan_walks :: rs_Plan_walks))
    (l_Plan_d_led_ : K.lookup f_Plan_d_led_ = some ⟨oc_Plan_d_led_, od_Plan_d_led_, .func (PySem.W.fnOf (PySem.Str.ofString "__le__") (PySem.Str.ofString "Plan.__le__") (defArgs st_Plan_d_led_) (defBody st_Plan_d_led_) (defScope st_Plan_d_led_) .none kV_Plan_d_led_ dc_Plan_d_led_ pm_Plan_d_led_ an_Plan_d_led_ cd_Plan_d_led_ ct_Plan_d_led_), sl_Plan_d_led_⟩)
    (c_Plan_d_led_ : PySem.W.codeIn K cd_Plan_d_led_ (PySem.Str.ofString "Plan.__le__") = true)
    (k_Plan_d_led_ : PySem.W.keepIn K (.ref f_Plan_d_led_) = true)
    (a_Plan_d_led_ : PySem.W.findIn K (.ref C0) (PySem.Str.ofString "__le__") = some (some (.ref f_Plan_d_led_)))
    (i_Plan_d_led_ : PySem.W.isFn K (.ref f_Plan_d_led_) = true)
    (l_law_within : K.lookup f_law_within = some ⟨oc_law_within, od_law_within, .func (PySem.W.fnOf (PySem.Str.ofString "_law_within") (PySem.Str.ofString "_law_within") (defArgs st_law_within) (defBody st_law_within) (defScope st_law_within) .none kV_law_within dc_law_within pm_law_within an_law_within cd_law_within ct_law_within), sl_law_within⟩)
    (c_law_within : PySem.W.codeIn K cd_law_within (PySem.Str.ofString "_law_within") = true)
    (k_law_within : PySem.W.keepIn K (.ref f_law_within) = true)
    (a_law_within : PySem.W.nsIn K mainGlobals (PySem.Str.ofString "_law_within") = some (some (.ref f_law_within)))
    (l_Plan_d_eqd_ : K.lookup f_Plan_d_eqd_ = some ⟨oc_Plan_d_eqd_, od_Plan_d_eqd_, .func (PySem.W.fnOf (PySem.Str.ofString "__eq__") (PySem.Str.ofString "Plan.__eq__") (defArgs st_Plan_d_eqd_) (defBody st_Plan_d_eqd_) (defScope st_Plan_d_eqd_) .none kV_Plan_d_eqd_ dc_Plan_d_eqd_ pm_Plan_d_eqd_ an_Plan_d_eqd_ cd_Plan_d_eqd_ ct_Plan_d_eqd_), sl_Plan_d_eqd_⟩)
    (c_Plan_d_eqd_ : PySem.W.codeIn K cd_Plan_d_eqd_ (PySem.Str.ofString "Plan.__eq__") = true)
    (k_Plan_d_eqd_ : PySem.W.keepIn K (.ref f_Plan_d_eqd_) = true)
    (a_Plan_d_eqd_ : PySem.W.findIn K (.ref C0) (PySem.Str.ofString "__eq__") = some (some (.ref f_Plan_d_eqd_)))
    (i_Plan_d_eqd_ : PySem.W.isFn K (.ref f_Plan_d_eqd_) = true)
    (l_law : K.lookup f_law = some ⟨oc_law, od_law, .func (PySem.W.fnOf (PySem.Str.ofString "law") (PySem.Str.ofString "law") (defArgs st_law) (defBody st_law) (defScope st_law) .none kV_law dc_law pm_law an_law cd_law ct_law), sl_law⟩)
    (c_law : PySem.W.codeIn K cd_law (PySem.Str.ofString "law") = true)
    (k_law : PySem.W.keepIn K (.ref f_law) = true)
    (a_law : PySem.W.nsIn K mainGlobals (PySem.Str.ofString "law") = some (some (.ref f_law))) :
    ∃ fd : FuncData, (∀ (s : Shared) (v : Value), BindsTo s fd ⟨[v], []⟩ [("_law_script", v)]) ∧ ∀ base : Heap, K.In base → base.Ns mainGlobals mg → FnOk l.prog w K mg base (L2.CX l.prog w) 5 fa fd ["_law_script"] (spLaw K) := by
  have e := hfa.symm.trans (PySem.W.mg_of X0 G0 a_law)
  cases e
  refine ⟨PySem.W.fnOf "law" "law" (defArgs st_law) (defBody st_law) (defScope st_law) .none kV_law dc_law pm_law an_law cd_law ct_law, fun s v => .of_eq rfl, fun base X G => ?hok⟩
  case hok =>
    have hC0 : (tb l.prog w K C0).CT[0]? = some C0 := rfl
    have mC0 : mg (PySem.Str.ofString "Plan") = some (.ref C0) := PySem.W.mg_of X G aC0
    have cl0 : Cls K C0 := ⟨pg0, hd0, po0, sa0⟩
    have ft_0 : (tb l.prog w K C0).FT[0]? = some (PySem.Str.ofString "groups") := rfl
    have hT : TW l.prog w (tb l.prog w K C0) := ⟨rfl, rfl⟩
    have m_int : mg (PySem.Str.ofString "int") = none := PySem.W.mg_none_of X G z_int
    have m_sum : mg (PySem.Str.ofString "sum") = none := PySem.W.mg_none_of X G z_sum
    have m_len : mg (PySem.Str.ofString "len") = none := PySem.W.mg_none_of X G z_len
    have m_range : mg (PySem.Str.ofString "range") = none := PySem.W.mg_none_of X G z_range
    have m_tuple : mg (PySem.Str.ofString "tuple") = none := PySem.W.mg_none_of X G z_tuple
    have na_0_0 : NaG (tb l.prog w K C0) 0 0 (PySem.Str.ofString "groups") := ⟨C0, hC0, ft_0, rna_0_0⟩
    have m_list : mg (PySem.Str.ofString "list") = none := PySem.W.mg_none_of X G z_list
    have sf_0 : SfG (tb l.prog w K C0) 0 := ⟨C0, hC0, rsf_0⟩
    have nf_cuts : (PySem.Str.ofString "cuts") ∉ (tb l.prog w K C0).FT := (by decide +kernel : (PySem.Str.ofString "cuts") ∉ FTs)
    have m_all : mg (PySem.Str.ofString "all") = none := PySem.W.mg_none_of X G z_all
    have m_any : mg (PySem.Str.ofString "any") = none := PySem.W.mg_none_of X G z_any
    have is_0 : IsG (tb l.prog w K C0) mg 0 (PySem.Str.ofString "Plan") true := ⟨C0, C0, hC0, ⟨is1_0, is5_0, is6_0, is3_0⟩, if_pos (beq_self_eq_true _), mC0⟩
    have m_isinstance : mg (PySem.Str.ofString "isinstance") = none := PySem.W.mg_none_of X G z_isinstance
    have nf_0 : NfG (tb l.prog w K C0) 0 := ⟨C0, hC0, rnf_0⟩
    have m_bool : mg (PySem.Str.ofString "bool") = none := PySem.W.mg_none_of X G z_bool
    have F_law_source := fun_mk (st := st_law_source) l_law_source c_law_source k_law_source
    have h_law_source : FnG l.prog w (tb l.prog w K C0) mg base 1 (PySem.Str.ofString "_law_source") G_law_source := fng_of F_law_source (PySem.W.mg_of X G a_law_source) sc_law_source (fun _ _ _ _ _ _ us hl => match us, hl with | [_], _ => rfl) isB (bx_law_source hT m_int m_sum)
    have F_law_draw := fun_mk (st := st_law_draw) l_law_draw c_law_draw k_law_draw
    have h_law_draw : FnG l.prog w (tb l.prog w K C0) mg base 1 (PySem.Str.ofString "_law_draw") G_law_draw := fng_of F_law_draw (PySem.W.mg_of X G a_law_draw) sc_law_draw (fun _ _ _ _ _ _ us hl => match us, hl with | [_, _], _ => rfl) isB (bx_law_draw hT m_len m_int)
    have F_law_names := fun_mk (st := st_law_names) l_law_names c_law_names k_law_names
    have h_law_names : FnG l.prog w (tb l.prog w K C0) mg base 2 (PySem.Str.ofString "_law_names") G_law_names := fng_of F_law_names (PySem.W.mg_of X G a_law_names) sc_law_names (fun _ _ _ _ _ _ us hl => match us, hl with | [_, _], _ => rfl) isB (bx_law_names hT h_law_draw m_range m_int)
    have F_law_cut := fun_mk (st := st_law_cut) l_law_cut c_law_cut k_law_cut
    have h_law_cut : FnG l.prog w (tb l.prog w K C0) mg base 2 (PySem.Str.ofString "_law_cut") G_law_cut := fng_of F_law_cut (PySem.W.mg_of X G a_law_cut) sc_law_cut (fun _ _ _ _ _ _ us hl => match us, hl with | [_, _], _ => rfl) isP (bx_law_cut hT m_len h_law_draw)
    have F_Plan_d_initd_ := fun_mk (st := st_Plan_d_initd_) l_Plan_d_initd_ c_Plan_d_initd_ k_Plan_d_initd_
    have h_Plan_d_initd_ : ClG l.prog w (tb l.prog w K C0) mg base 1 0 (PySem.Str.ofString "Plan") G_Plan_d_initd_ := clg_ofS (ps := [(PySem.Str.ofString "self")]) (pv := (PySem.Str.ofString "groups")) F_Plan_d_initd_ hC0 mC0 cl0 mk0 kc0 a_Plan_d_initd_ i_Plan_d_initd_ sc_Plan_d_initd_ (bindS1 rfl) isB (bx_Plan_d_initd_ hT m_len m_tuple na_0_0)
    have F_Plan_d_addd_ := fun_mk (st := st_Plan_d_addd_) l_Plan_d_addd_ c_Plan_d_addd_ k_Plan_d_addd_
    have h_Plan_d_addd_ : MtG l.prog w (tb l.prog w K C0) mg base 3 0 (PySem.Str.ofString "__add__") G_Plan_d_addd_ := mtg_of  F_Plan_d_addd_ hC0 a_Plan_d_addd_ i_Plan_d_addd_ sc_Plan_d_addd_ (fun _ _ _ _ _ _ us hl => match us, hl with | [_, _], _ => rfl) isB (bx_Plan_d_addd_ hT h_Plan_d_initd_ ft_0)
    have F_law_plan := fun_mk (st := st_law_plan) l_law_plan c_law_plan k_law_plan
    have h_law_plan : FnG l.prog w (tb l.prog w K C0) mg base 4 (PySem.Str.ofString "_law_plan") G_law_plan := fng_of F_law_plan (PySem.W.mg_of X G a_law_plan) sc_law_plan (fun _ _ _ _ _ _ us hl => match us, hl with | [_], _ => rfl) isB (bx_law_plan hT h_Plan_d_initd_ m_list h_Plan_d_addd_ sf_0)
    have F_Plan_cuts := fun_mk (st := st_Plan_cuts) l_Plan_cuts c_Plan_cuts k_Plan_cuts
    have h_Plan_cuts : MtG l.prog w (tb l.prog w K C0) mg base 1 0 (PySem.Str.ofString "cuts") G_Plan_cuts := mtg_of  F_Plan_cuts hC0 a_Plan_cuts i_Plan_cuts sc_Plan_cuts (fun _ _ _ _ _ _ us hl => match us, hl with | [_], _ => rfl) isP (bx_Plan_cuts hT ft_0 m_len)
    have F_Plan_walks := fun_mk (st := st_Plan_walks) l_Plan_walks c_Plan_walks k_Plan_walks
    have h_Plan_walks : PrG l.prog w (tb l.prog w K C0) mg base 1 0 (PySem.Str.ofString "walks") G_Plan_walks := prg_of F_Plan_walks hC0 a_Plan_walks g_Plan_walks t_Plan_walks r_Plan_walks sc_Plan_walks (fun _ _ _ _ _ _ us hl => match us, hl with | [_], _ => rfl) isB (bx_Plan_walks hT ft_0 m_tuple)
    have F_Plan_d_led_ := fun_mk (st := st_Plan_d_led_) l_Plan_d_led_ c_Plan_d_led_ k_Plan_d_led_
    have h_Plan_d_led_ : MtG l.prog w (tb l.prog w K C0) mg base 3 0 (PySem.Str.ofString "__le__") G_Plan_d_led_ := mtg_of  F_Plan_d_led_ hC0 a_Plan_d_led_ i_Plan_d_led_ sc_Plan_d_led_ (fun _ _ _ _ _ _ us hl => match us, hl with | [_, _], _ => rfl) isB (bx_Plan_d_led_ hT h_Plan_cuts nf_cuts h_Plan_walks m_all)
    have F_law_within := fun_mk (st := st_law_within) l_law_within c_law_within k_law_within
    have h_law_within : FnG l.prog w (tb l.prog w K C0) mg base 1 (PySem.Str.ofString "_law_within") G_law_within := fng_of F_law_within (PySem.W.mg_of X G a_law_within) sc_law_within (fun _ _ _ _ _ _ us hl => match us, hl with | [_, _], _ => rfl) isB (bx_law_within hT m_len m_range m_sum m_any)
    have F_Plan_d_eqd_ := fun_mk (st := st_Plan_d_eqd_) l_Plan_d_eqd_ c_Plan_d_eqd_ k_Plan_d_eqd_
    have h_Plan_d_eqd_ : MtG l.prog w (tb l.prog w K C0) mg base 1 0 (PySem.Str.ofString "__eq__") G_Plan_d_eqd_ := mtg_of  F_Plan_d_eqd_ hC0 a_Plan_d_eqd_ i_Plan_d_eqd_ sc_Plan_d_eqd_ (fun _ _ _ _ _ _ us hl => match us, hl with | [_, _], _ => rfl) isB (bx_Plan_d_eqd_ hT is_0 m_isinstance ft_0)
    have F_law := fun_mk (st := st_law) l_law c_law k_law
    exact (fnok_body F_law sc_law isP (bx_law hT h_law_source h_law_names h_law_draw m_range h_law_cut m_len h_law_plan h_Plan_d_led_ nf_0 m_isinstance m_bool h_law_within h_Plan_d_eqd_)).imp fun vs H Q E h => sp_law h
theorem walk {l : PySem.W.OpenLaw} {q : Program} {loose : List Str} {XP : (Str → Option Value) → Heap → Prop} {YP : World → Heap → Prop} {d : DefRec} {K : Params → PySem.W.Frag} (hn : l.most = some 63) (hdf : d.params.defaults = [])
    (hY : ∀ (w : World) (h : Heap), YP w h → (K w.params).In h)
    (F : ∀ (w : World) (mg : Str → Option Value) (fa : Addr) (h : Heap), (K w.params).In h → h.Ns mainGlobals mg → mg d.name = some (.ref fa) →
      ∃ fd : FuncData, (∀ (s : Shared) (u : Value), BindsTo s fd ⟨[u], []⟩ [("_law_script", u)]) ∧ ∀ base : Heap, (K w.params).In base → base.Ns mainGlobals mg → FnOk l.prog w (K w.params) mg base (L2.CX l.prog w) 5 fa fd ["_law_script"] (spLaw (K w.params))) :
    PySem.W.WalkO q loose XP YP l.row.toRowW d [] (fun f vs => PySem.call f vs) :=
  L2.walk_of (n := 63) (k := 5) (x := "_law_script") (CX := fun w => L2.CX l.prog w) (sp := fun w => spLaw (K w.params)) hn (by decide) hdf ⟨rfl, by decide, by decide⟩ hY F (fun _ _ a ns hl hO hS => ⟨a, ns, rfl, hO, hS, hl, fun _ => rfl⟩) fun w H s e s' z => by
    obtain ⟨_, _, _, _, _, _, _, _, _, _, _, _, z⟩ := z
    exact z.elim
end K11
open PySem PySem.W PyProof.Rows
set_option maxRecDepth 100000 in
set_option maxHeartbeats 0 in
theorem PySem.Challenge.cw_fusewalks_k11_plan_order_holds : PySem.Challenge.rw_fusewalks_k11_plan_order.Holds := by
  w_on; o_law; k_head; (case hw => w_witness2)
  k_fill
  refine K11.walk (l := PySem.Challenge.rw_fusewalks_k11_plan_order) rfl rfl (fun w h Y => PySem.W.kIn_of Y) ?F
  case F =>
    intro w mg fa h KX G hmg
    refine' K11.all_mk KX G hmg ?aC0 ?pg0 ?hd0 ?po0 ?sa0 ?mk0 ?kc0 ?z_int ?z_sum ?z_len ?z_range ?z_tuple ?rna_0_0 ?z_list ?rsf_0 ?z_all ?z_any ?is1_0 ?is3_0 ?is5_0 ?is6_0 ?z_isinstance ?rnf_0 ?z_bool ?l_law_source ?c_law_source ?k_law_source ?a_law_source ?l_law_draw ?c_law_draw ?k_law_draw ?a_law_draw ?l_law_names ?c_law_names ?k_law_names ?a_law_names ?l_law_cut ?c_law_cut ?k_law_cut ?a_law_cut ?l_Plan_d_initd_ ?c_Plan_d_initd_ ?k_Plan_d_initd_ ?a_Plan_d_initd_ ?i_Plan_d_initd_ ?l_Plan_d_addd_ ?c_Plan_d_addd_ ?k_Plan_d_addd_ ?a_Plan_d_addd_ ?i_Plan_d_addd_ ?l_law_plan ?c_law_plan ?k_law_plan ?a_law_plan ?l_Plan_cuts ?c_Plan_cuts ?k_Plan_cuts ?a_Plan_cuts ?i_Plan_cuts ?l_Plan_walks ?c_Plan_walks ?k_Plan_walks ?a_Plan_walks ?g_Plan_walks ?t_Plan_walks ?r_Plan_walks ?l_Plan_d_led_ ?c_Plan_d_led_ ?k_Plan_d_led_ ?a_Plan_d_led_ ?i_Plan_d_led_ ?l_law_within ?c_law_within ?k_law_within ?a_law_within ?l_Plan_d_eqd_ ?c_Plan_d_eqd_ ?k_Plan_d_eqd_ ?a_Plan_d_eqd_ ?i_Plan_d_eqd_ ?l_law ?c_law ?k_law ?a_law
    (case aC0 => k_is)
    (case a_law_source => k_is)
    (case a_law_draw => k_is)
    (case a_law_names => k_is)
    (case a_law_cut => k_is)
    (case a_Plan_d_initd_ => k_is)
    (case a_Plan_d_addd_ => k_is)
    (case a_law_plan => k_is)
    (case a_Plan_cuts => k_is)
    (case a_Plan_walks => k_is)
    (case a_Plan_d_led_ => k_is)
    (case a_law_within => k_is)
    (case a_Plan_d_eqd_ => k_is)
    (case a_law => k_is)
    (case r_Plan_walks => k_is)
    (case l_law_source => k_is)
    (case l_law_draw => k_is)
    (case l_law_names => k_is)
    (case l_law_cut => k_is)
    (case l_Plan_d_initd_ => k_is)
    (case l_Plan_d_addd_ => k_is)
    (case l_law_plan => k_is)
    (case l_Plan_cuts => k_is)
    (case l_Plan_walks => k_is)
    (case l_Plan_d_led_ => k_is)
    (case l_law_within => k_is)
    (case l_Plan_d_eqd_ => k_is)
    (case l_law => k_is)
    (case pg0 => k_is)
    (case hd0 => k_is)
    (case po0 => k_is)
    (case sa0 => k_is)
    (case mk0 => k_is)
    (case kc0 => k_is)
    (case z_int => k_is)
    (case z_sum => k_is)
    (case z_len => k_is)
    (case z_range => k_is)
    (case z_tuple => k_is)
    (case rna_0_0 => k_is)
    (case z_list => k_is)
    (case rsf_0 => k_is)
    (case z_all => k_is)
    (case z_any => k_is)
    (case is1_0 => k_is)
    (case is3_0 => k_is)
    (case is5_0 => k_is)
    (case is6_0 => k_is)
    (case z_isinstance => k_is)
    (case rnf_0 => k_is)
    (case z_bool => k_is)
    (case c_law_source => k_is)
    (case k_law_source => k_is)
    (case c_law_draw => k_is)
    (case k_law_draw => k_is)
    (case c_law_names => k_is)
    (case k_law_names => k_is)
    (case c_law_cut => k_is)
    (case k_law_cut => k_is)
    (case c_Plan_d_initd_ => k_is)
    (case k_Plan_d_initd_ => k_is)
    (case i_Plan_d_initd_ => k_is)
    (case c_Plan_d_addd_ => k_is)
    (case k_Plan_d_addd_ => k_is)
    (case i_Plan_d_addd_ => k_is)
    (case c_law_plan => k_is)
    (case k_law_plan => k_is)
    (case c_Plan_cuts => k_is)
    (case k_Plan_cuts => k_is)
    (case i_Plan_cuts => k_is)
    (case c_Plan_walks => k_is)
    (case k_Plan_walks => k_is)
    (case g_Plan_walks => k_is)
    (case t_Plan_walks => k_is)
    (case c_Plan_d_led_ => k_is)
    (case k_Plan_d_led_ => k_is)
    (case i_Plan_d_led_ => k_is)
    (case c_law_within => k_is)
    (case k_law_within => k_is)
    (case c_Plan_d_eqd_ => k_is)
    (case k_Plan_d_eqd_ => k_is)
    (case i_Plan_d_eqd_ => k_is)
    (case c_law => k_is)
    (case k_law => k_is)
#print axioms PySem.Challenge.cw_fusewalks_k11_plan_order_holds

